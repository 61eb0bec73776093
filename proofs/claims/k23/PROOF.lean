import PyProof.Rows.All
import Wide.All
import OpenK.AllK
import Wide.FinOn
import HandS.Base
import HandS.Call
import HandS.List
import HandS.Comp
import HandS.Words
import HandS.Exc
import HandS.Lambda
import HandS.ExcOwn
import HandS.Iter
import HandS.Slots
import HandS.Zip
import HandS.Dict
import HandS.WordsExc
import HandS.Star
import HandS.TupAny
import HandS.Text
import HandS.Wide
import HandS.IsInst
import HandS.SortInts
import HandS.Deep
import HandS.RaiseMore
import HandS.Style
import PyProof.ReprRoads
import HandS.Ends
import HandS.Conv
import HandS.Strs
import HandS.SetFor
import KE.KRevSl
import KE.GoesEnum
import HandS.TupLe
import KE.DataMinKey
import HandS.Property
import HandS.ExcField
import PyProof.ExcBaseAll.IndexError
import PyProof.ExcBaseAll.OverflowError
import PyProof.ExcBaseAll.ArithmeticError
import PyProof.ExcBaseAll.LookupError
import PyProof.ExcBaseAll.RuntimeError
import HandS.DictComp
import HandS.ListItems
import HandS.Keys
import KE.KCallOwn
import HandS.OwnEq
import KE.KOpsOwn
import HandS.SlotsOwn
import HandS.Defaults
import HandS.FStr
import KE.GoesMore
import PyProof.EnumFor
import HandS.TupSets
import HandS.EndTab
import HandS.TupMul
import HandS.TryOnly
import KE.KStateDown
import HandS.Head0
import HandS.Head1
import HandS.Head2
import HandS.HeadHook1
import HandS.HeadHook2
import HandS.HeadHook4
import KE.DatumOrd
import HandS.SortRule
import KE.DataMinMax
import KE.KEqNest
import HandS.ListEq
import HandS.DictEq
import HandS.DeepEq
import HandS.Flow
import KE.KDictZip
import KE.KTupSum
import HandS.OwnIter
import HandS.IterVal
import HandS.ClsMeth
import HandS.HeadNt
import KE.IntTextLaws
import PyProof.NeKinds
import KE.KStar
import PySem.Challenge.RW_chainpacks_k23_whole_things_in_packings
set_option Elab.async false
set_option linter.all false
set_option maxRecDepth 100000
set_option maxHeartbeats 4000000
/-! DL1: the data layer. Values as trees (D), what stands for them in the heap (Rep), a frame's names as data (EnvD), the judgements DE, DT, DS. -/
namespace DL
open PySem PySem.Spec PyProof.Rows L2
def isTbl : HO → Bool
  | .tbl _ => true
  | _ => false
/-- what is tracked stays, tables of code objects apart -/
structure Grow (H H' : Hp) : Prop where
  get : ∀ b o, H b = some o → isTbl o = false → H' b = some o
/-- what is neither a table nor a code object -/
def isTup : HO → Bool
  | .tup _ => true
  | _ => false
def Plain (o : HO) : Prop := isTbl o = false ∧ (∀ c q, o ≠ LamX.CodeO c q) ∧ isTup o = false
def isExt : HO → Bool
  | .ext _ => true
  | _ => false
theorem plain_of {o : HO} (h : isTbl o = false := by rfl) (n : isExt o = false := by rfl) (t : isTup o = false := by rfl) : Plain o := ⟨h, fun c q z => (by rw [z] at n; cases n), t⟩
inductive D where
  | none | bool (b : Bool) | int (i : Int) | str (s : Str) | list (xs : List D) | tup (xs : List D)
  | dict (kvs : List (Key × D)) | tdict (kvs : List (List Key × D)) | dice | script (ns : List Int) | opq (a : Addr) (Hc : Hp) | ty (n : String)
  | fn (n : Str)
  | obj (n : Str) (fs : List (Str × D))
  | exc (a dd : Addr) (n f : Str) (d : D)
  | sob (n : Str) (d : D)
structure Er where
  cls : Str
  arg : Option (Str × D)
/-- the dice: a list of three ints, whatever they are -/
def DiceH (a : Addr) (h : Heap) : Prop := ∃ (i j k : Int) (t u w : Tok) (n : Nat), h.get? a = some { cls := .type "list", data := .seq #[.int i t, .int j u, .int k w] n }
def diceO (a : Addr) : HO := .ext (DiceH a)
mutual
inductive Rep (K : PySem.W.Frag) (H : Hp) : V → D → Prop
  | non : Rep K H .non .none
  | bool (b : Bool) : Rep K H (.bl b) (.bool b)
  | int (i : Int) : Rep K H (.int i) (.int i)
  | str (x : Str) : Rep K H (.str x) (.str x)
  | list {a : Addr} {xs : List V} {ds : List D} : H a = some (.lst xs) → xs.length ≤ sizeLine → Reps K H xs ds → Rep K H (.ref a) (.list ds)
  | tup {a : Addr} {xs : List V} {ds : List D} : SqT K H a xs → xs.length ≤ sizeLine → Reps K H xs ds → Rep K H (.ref a) (.tup ds)
  | dict {a : Addr} {od : Obj} {kvs : List (Key × V)} {ds : List (Key × D)} : H a = some (.frz od (.dK kvs)) → kvs.length ≤ sizeLine → RepKs K H kvs ds → Rep K H (.ref a) (.dict ds)
  | tdict {a : Addr} {od : Obj} {kvs : List (List Key × V)} {ds : List (List Key × D)} : H a = some (.frz od (.dT kvs)) → kvs.length ≤ sizeLine → kvs.map (·.1) = ds.map (·.1) → Reps K H (kvs.map (·.2)) (ds.map (·.2)) → Rep K H (.ref a) (.tdict ds)
  | obj {n : Str} {a C dx : Addr} {fs : List (Str × V)} {ds : List (Str × D)} : PySem.W.nsIn K mainGlobals n = some (some (.ref C)) → H a = some (.ins C dx fs) → RepFs K H fs ds → Rep K H (.ref a) (.obj n ds)
  | dice {a : Addr} : H a = some (diceO a) → Rep K H (.ref a) .dice
  | script {a : Addr} {ns : List Int} : SqL K H a (ns.map V.int) → ns.length ≤ sizeLine → Rep K H (.ref a) (.script ns)
  | opq {a : Addr} {Hc : Hp} : Grow Hc H → Rep K H (.ref a) (.opq a Hc)
  | ty (n : String) : Rep K H (.ty n) (.ty n)
  | fn {n : Str} {a : Addr} : PySem.W.nsIn K mainGlobals n = some (some (.ref a)) → Rep K H (.ref a) (.fn n)
  | exc {a dd C : Addr} {n f : Str} {v : V} {d : D} : PySem.W.nsIn K mainGlobals n = some (some (.ref C)) → H dd = some (.xd [(f, v)]) → Rep K H v d → Rep K H (.ref a) (.exc a dd n f d)
  | sob {n : Str} {a C dx : Addr} {v : V} {d : D} : PySem.W.nsIn K mainGlobals n = some (some (.ref C)) → H a = some (SlX.SlO a C dx [some v]) → H dx = some (.xd []) → Rep K H v d → Rep K H (.ref a) (.sob n d)
inductive Reps (K : PySem.W.Frag) (H : Hp) : List V → List D → Prop
  | nil : Reps K H [] []
  | cons {v : V} {vs : List V} {d : D} {ds : List D} : Rep K H v d → Reps K H vs ds → Reps K H (v :: vs) (d :: ds)
inductive RepKs (K : PySem.W.Frag) (H : Hp) : List (Key × V) → List (Key × D) → Prop
  | nil : RepKs K H [] []
  | cons {k : Key} {v : V} {vs : List (Key × V)} {d : D} {ds : List (Key × D)} : Rep K H v d → RepKs K H vs ds → RepKs K H ((k, v) :: vs) ((k, d) :: ds)
inductive RepFs (K : PySem.W.Frag) (H : Hp) : List (Str × V) → List (Str × D) → Prop
  | nil : RepFs K H [] []
  | cons {f : Str} {v : V} {vs : List (Str × V)} {d : D} {ds : List (Str × D)} : Rep K H v d → RepFs K H vs ds → RepFs K H ((f, v) :: vs) ((f, d) :: ds)
end
theorem Grow.at {H H' : Hp} (e : Grow H H') (b : Addr) (o : HO) (h : H b = some o) (n : isTbl o = false := by rfl) : H' b = some o := e.get b o h n
instance {H H' : Hp} : CoeFun (Grow H H') (fun _ => ∀ b o, H b = some o → (n : isTbl o = false := by rfl) → H' b = some o) := ⟨@Grow.at H H'⟩
theorem Grow.refl (H : Hp) : Grow H H := ⟨fun _ _ h _ => h⟩
theorem Grow.trans {H H1 H2 : Hp} (a : Grow H H1) (b : Grow H1 H2) : Grow H H2 := ⟨fun c o h n => b.get c o (a.get c o h n) n⟩
theorem Grow.seq {K : PySem.W.Frag} {H H' : Hp} {a : Addr} {xs : List V} (e : Grow H H') (h : SqL K H a xs) : SqL K H' a xs := by
  rcases h with (h | ⟨o, h⟩) | h
  · exact .inl (.inl (e _ _ h))
  · exact .inl (.inr ⟨o, e _ _ h⟩)
  · exact .inr h
class TabsC where
  T : List (Addr × Str)
variable [TabsC]
/-- the same, and tables keep what they tell -/
structure Same (H H' : Hp) : Prop where
  ob : Grow H H'
  tb : LamX.Tabs TabsC.T H → LamX.Tabs TabsC.T H'
  ne : ∀ b, H' b = none → H b = none
theorem Same.at {H H' : Hp} (e : Same H H') (b : Addr) (o : HO) (h : H b = some o) (n : isTbl o = false := by rfl) : H' b = some o := e.ob.get b o h n
instance {H H' : Hp} : CoeFun (Same H H') (fun _ => ∀ b o, H b = some o → (n : isTbl o = false := by rfl) → H' b = some o) := ⟨@Same.at _ H H'⟩
instance {H H' : Hp} : Coe (Same H H') (Grow H H') := ⟨Same.ob⟩
theorem Same.refl (H : Hp) : Same H H := ⟨Grow.refl H, fun h => h, fun _ h => h⟩
theorem Same.trans {H H1 H2 : Hp} (a : Same H H1) (b : Same H1 H2) : Same H H2 := ⟨a.ob.trans b.ob, fun h => b.tb (a.tb h), fun c h => a.ne c (b.ne c h)⟩
theorem Same.free {H H' : Hp} (e : Same H H') {l : Addr} (h : H' l = Option.none) : H l = Option.none := e.ne l h
theorem Same.seq {K : PySem.W.Frag} {H H' : Hp} {a : Addr} {xs : List V} (e : Same H H') (h : SqL K H a xs) : SqL K H' a xs := e.ob.seq h
theorem Same.of {H H' : Hp} (e : ∀ b o, H b = some o → H' b = some o) : Same H H' := ⟨⟨fun b o h _ => e b o h⟩, fun h p hp => (h p hp).ext e, fun b h => by
  cases q : H b with
  | none => rfl
  | some o => rw [e b o q] at h; cases h⟩
theorem TabS.put {H : Hp} {a P : Addr} {q : Str} {o o' : HO} (h : H a = some o) (n : isTbl o = false) (m : ∀ c q, o ≠ LamX.CodeO c q) (t : LamX.TabS H P q) : LamX.TabS (upd H a o') P q := by
  obtain ⟨ps, h1, h2, h3⟩ := t
  have nP : P ≠ a := fun z => by
    rw [z, h] at h1
    cases h1
    cases n
  refine ⟨ps, by rw [upd_ne nP]; exact h1, h2, fun pos cv hc => ?_⟩
  obtain ⟨c, e1, e2⟩ := h3 pos cv hc
  refine ⟨c, e1, ?_⟩
  rw [upd_ne fun z => ?_]
  · exact e2
  · rw [z, h] at e2
    exact m _ _ (Option.some.inj e2)
theorem Same.put {H : Hp} {a : Addr} {o o' : HO} {H0 : Hp} (e : Same H0 H) (h0 : H0 a = none) (h : H a = some o) (n : isTbl o = false := by rfl) (m : ∀ c q, o ≠ LamX.CodeO c q := by intro c q z; unfold LamX.CodeO at z; cases z) : Same H0 (upd H a o') :=
  ⟨⟨fun b u q hb => by rw [upd_ne (ne_of_none q h0)]; exact e.ob.get b u q hb⟩, fun t p hp => TabS.put h n m (e.tb t p hp), fun b z => by
    by_cases hb : b = a
    · rw [hb]; exact h0
    · rw [upd_ne hb] at z; exact e.ne b z⟩
theorem sameT {K : PySem.W.Frag} {H H' : Hp} {a : Addr} {xs : List V} (e : Grow H H') (h : SqT K H a xs) : SqT K H' a xs := by
  rcases h with (h | ⟨o, h⟩) | h
  · exact .inl (.inl (e _ _ h))
  · exact .inl (.inr ⟨o, e _ _ h⟩)
  · exact .inr h
section
variable {K : PySem.W.Frag} {H H' : Hp}
theorem rdMono {H H' : Hp} {a : Addr} {u : HO} (e : Grow H H') (h : Rd H a u) (n : isTbl u = false := by rfl) : Rd H' a u := by
  rcases h with h | ⟨o, h⟩
  · exact .inl (e _ _ h n)
  · exact .inr ⟨o, e _ _ h⟩
mutual
theorem Rep.mono (e : Grow H H') : ∀ {v : V} {d : D}, Rep K H v d → Rep K H' v d
  | _, _, .non => .non
  | _, _, .bool b => .bool b
  | _, _, .int i => .int i
  | _, _, .str x => .str x
  | _, _, .list h l r => .list (e _ _ h) l (Reps.mono e r)
  | _, _, .tup h l r => .tup (sameT e h) l (Reps.mono e r)
  | _, _, .dict h l r => .dict (e _ _ h) l (RepKs.mono e r)
  | _, _, .tdict h l k r => .tdict (e _ _ h) l k (Reps.mono e r)
  | _, _, .obj c h r => .obj c (e _ _ h) (RepFs.mono e r)
  | _, _, .dice h => .dice (e _ _ h)
  | _, _, .script h l => .script (e.seq h) l
  | _, _, .opq h => .opq (h.trans e)
  | _, _, .ty n => .ty n
  | _, _, .fn h => .fn h
  | _, _, .exc c h r => .exc c (e _ _ h) (Rep.mono e r)
  | _, _, .sob c h k r => .sob c (e _ _ h) (e _ _ k) (Rep.mono e r)
theorem Reps.mono (e : Grow H H') : ∀ {vs : List V} {ds : List D}, Reps K H vs ds → Reps K H' vs ds
  | _, _, .nil => .nil
  | _, _, .cons h r => .cons (Rep.mono e h) (Reps.mono e r)
theorem RepKs.mono (e : Grow H H') : ∀ {vs : List (Key × V)} {ds : List (Key × D)}, RepKs K H vs ds → RepKs K H' vs ds
  | _, _, .nil => .nil
  | _, _, .cons h r => .cons (Rep.mono e h) (RepKs.mono e r)
theorem RepFs.mono (e : Grow H H') : ∀ {vs : List (Str × V)} {ds : List (Str × D)}, RepFs K H vs ds → RepFs K H' vs ds
  | _, _, .nil => .nil
  | _, _, .cons h r => .cons (Rep.mono e h) (RepFs.mono e r)
end
theorem Reps.length : ∀ {vs : List V} {ds : List D}, Reps K H vs ds → vs.length = ds.length
  | _, _, .nil => rfl
  | _, _, .cons _ r => by rw [List.length_cons, List.length_cons, Reps.length r]
theorem RepKs.length : ∀ {vs : List (Key × V)} {ds : List (Key × D)}, RepKs K H vs ds → vs.length = ds.length
  | _, _, .nil => rfl
  | _, _, .cons _ r => by rw [List.length_cons, List.length_cons, RepKs.length r]
theorem Reps.get : ∀ {vs : List V} {ds : List D} {i : Nat} {v : V}, Reps K H vs ds → vs[i]? = some v → ∃ d, ds[i]? = some d ∧ Rep K H v d
  | _, _, _, _, .nil, e => by simp at e
  | _, _, 0, _, .cons r _, e => by simp at e; subst e; exact ⟨_, rfl, r⟩
  | _, _, i + 1, x, .cons _ t, e => by
    obtain ⟨d, h1, h2⟩ := Reps.get (i := i) (v := x) t (by simpa using e)
    exact ⟨d, by simpa using h1, h2⟩
theorem Reps.get' {vs : List V} {ds : List D} {i : Nat} {d : D} (r : Reps K H vs ds) (e : ds[i]? = some d) : ∃ v, vs[i]? = some v ∧ Rep K H v d := by
  have hi : i < vs.length := by
    rw [r.length]
    exact (List.getElem?_eq_some_iff.mp e).1
  have ev : vs[i]? = some vs[i] := List.getElem?_eq_getElem hi
  obtain ⟨d', h1, h2⟩ := r.get ev
  rw [e] at h1
  cases h1
  exact ⟨_, ev, h2⟩
theorem Reps.append : ∀ {vs ws : List V} {ds es : List D}, Reps K H vs ds → Reps K H ws es → Reps K H (vs ++ ws) (ds ++ es)
  | _, _, _, _, .nil, s => s
  | _, _, _, _, .cons r t, s => .cons r (Reps.append t s)
theorem Reps.take : ∀ {vs : List V} {ds : List D} (n : Nat), Reps K H vs ds → Reps K H (vs.take n) (ds.take n)
  | _, _, 0, _ => .nil
  | _, _, _ + 1, .nil => .nil
  | _, _, n + 1, .cons r t => .cons r (Reps.take n t)
theorem Reps.drop : ∀ {vs : List V} {ds : List D} (n : Nat), Reps K H vs ds → Reps K H (vs.drop n) (ds.drop n)
  | _, _, 0, r => r
  | _, _, _ + 1, .nil => .nil
  | _, _, n + 1, .cons _ t => Reps.drop n t
theorem Reps.reverse {vs : List V} {ds : List D} (r : Reps K H vs ds) : Reps K H vs.reverse ds.reverse := by
  have go : ∀ {vs : List V} {ds : List D}, Reps K H vs ds → Reps K H vs.reverse ds.reverse := by
    intro vs
    induction vs with
    | nil => intro ds r; cases r; exact .nil
    | cons v vs ih =>
      intro ds r
      cases r with
      | cons r t =>
        rw [List.reverse_cons, List.reverse_cons]
        exact (ih t).append (.cons r .nil)
  exact go r
theorem Reps.ints : ∀ (ns : List Int), Reps K H (ns.map V.int) (ns.map D.int)
  | [] => .nil
  | n :: ns => .cons (.int n) (Reps.ints ns)
theorem Reps.of_ints : ∀ {vs : List V} {ns : List Int}, Reps K H vs (ns.map D.int) → vs = ns.map V.int
  | _, [], r => by cases r; rfl
  | _, n :: ns, r => by
    cases r with
    | cons h t =>
      cases h
      rw [Reps.of_ints t]
      rfl
theorem Reps.of_bools : ∀ {vs : List V} {ns : List Bool}, Reps K H vs (ns.map D.bool) → vs = ns.map V.bl
  | _, [], r => by cases r; rfl
  | _, n :: ns, r => by
    cases r with
    | cons h t =>
      cases h
      rw [Reps.of_bools t]
      rfl
end
/-! ### heaps without some cells -/
def sub (H : Hp) (ls : List Addr) : Hp := fun a => if a ∈ ls then none else H a
section
variable {H H' : Hp} {ls ls' : List Addr} {a : Addr} {o : HO}
theorem sub_in (h : a ∈ ls) : sub H ls a = none := if_pos h
theorem sub_out (h : a ∉ ls) : sub H ls a = H a := if_neg h
theorem sub_le : Grow (sub H ls) H := ⟨fun b o h _ => by
  by_cases hb : b ∈ ls
  · rw [sub_in hb] at h; cases h
  · rw [sub_out hb] at h; exact h⟩
theorem sub_same (e : Grow H H') : Grow (sub H ls) (sub H' ls) := ⟨fun b o h hn => by
  by_cases hb : b ∈ ls
  · rw [sub_in hb] at h; cases h
  · rw [sub_out hb] at h ⊢; exact e.get b o h hn⟩
theorem sub_less (e : ∀ a, a ∈ ls' → a ∈ ls) : Grow (sub H ls) (sub H ls') := ⟨fun b o h _ => by
  by_cases hb : b ∈ ls
  · rw [sub_in hb] at h; cases h
  · rw [sub_out hb] at h
    rw [sub_out fun z => hb (e b z)]
    exact h⟩
theorem sub_upd (h : a ∈ ls) : sub (upd H a o) ls = sub H ls := by
  funext b
  unfold sub
  by_cases hb : b ∈ ls
  · rw [if_pos hb, if_pos hb]
  · rw [if_neg hb, if_neg hb, upd_ne fun z => hb (by rw [z]; exact h)]
theorem same_upd (h : H a = none) : Same H (upd H a o) := Same.of fun b u e => by
  rw [upd_ne (ne_of_none e h)]
  exact e
/-- a new cell set aside -/
theorem sub_fresh (h : H a = none) (e : Same H H') : Grow (sub H ls) (sub H' (a :: ls)) := ⟨fun b o hb hn => by
  have h1 : b ∉ ls := fun z => by rw [sub_in z] at hb; cases hb
  rw [sub_out h1] at hb
  rw [sub_out fun z => (List.mem_cons.mp z).elim (ne_of_none hb h) h1]
  exact e.ob.get b o hb hn⟩
end
/-- a dict with tuples as keys -/
def RepTs (K : PySem.W.Frag) (H : Hp) (kvs : List (List Key × V)) (ds : List (List Key × D)) : Prop := kvs.map (·.1) = ds.map (·.1) ∧ Reps K H (kvs.map (·.2)) (ds.map (·.2))
theorem RepTs.mono {K : PySem.W.Frag} {H H' : Hp} {kvs : List (List Key × V)} {ds : List (List Key × D)} (r : RepTs K H kvs ds) (e : Grow H H') : RepTs K H' kvs ds := ⟨r.1, Reps.mono e r.2⟩
/-! ### what a value is in a frame that owns cells -/
inductive RV (K : PySem.W.Frag) (fo ls : List Addr) (H : Hp) : Bool → V → D → Prop
  | cl {b : Bool} {v : V} {d : D} : Rep K (sub H ls) v d → RV K fo ls H b v d
  | ml {a : Addr} {xs : List V} {ds : List D} : a ∉ fo → H a = some (.lst xs) → xs.length ≤ sizeLine → Reps K (sub H ls) xs ds → RV K fo ls H true (.ref a) (.list ds)
  | md {a : Addr} {kvs : List (Key × V)} {ds : List (Key × D)} : a ∉ fo → H a = some (.dK kvs) → kvs.length ≤ sizeLine → RepKs K (sub H ls) kvs ds → RV K fo ls H true (.ref a) (.dict ds)
  | mt {a : Addr} {kvs : List (List Key × V)} {ds : List (List Key × D)} : a ∉ fo → H a = some (.dT kvs) → kvs.length ≤ sizeLine → RepTs K (sub H ls) kvs ds → RV K fo ls H true (.ref a) (.tdict ds)
  | mo {a C dx : Addr} {n : Str} {fs : List (Str × V)} {ds : List (Str × D)} : a ∉ fo → PySem.W.nsIn K mainGlobals n = some (some (.ref C)) → H a = some (.ins C dx fs) → RepFs K (sub H ls) fs ds → RV K fo ls H true (.ref a) (.obj n ds)
/-- a new container of one's own at p -/
inductive FV (K : PySem.W.Frag) (ls : List Addr) (H : Hp) (p : Addr) : D → Prop
  | l {xs : List V} {ds : List D} : H p = some (.lst xs) → xs.length ≤ sizeLine → Reps K (sub H ls) xs ds → FV K ls H p (.list ds)
  | d {kvs : List (Key × V)} {ds : List (Key × D)} : H p = some (.dK kvs) → kvs.length ≤ sizeLine → RepKs K (sub H ls) kvs ds → FV K ls H p (.dict ds)
  | t {kvs : List (List Key × V)} {ds : List (List Key × D)} : H p = some (.dT kvs) → kvs.length ≤ sizeLine → RepTs K (sub H ls) kvs ds → FV K ls H p (.tdict ds)
  | o {C dx : Addr} {n : Str} {fs : List (Str × V)} {ds : List (Str × D)} : PySem.W.nsIn K mainGlobals n = some (some (.ref C)) → H p = some (.ins C dx fs) → RepFs K (sub H ls) fs ds → FV K ls H p (.obj n ds)
section
variable {K : PySem.W.Frag} {fo ls : List Addr} {H H' : Hp} {b : Bool} {v : V} {d : D}
theorem RV.clean (r : RV K fo ls H false v d) : Rep K (sub H ls) v d := by
  cases r with
  | cl r => exact r
theorem RV.up (r : RV K fo ls H b v d) : RV K fo ls H true v d := by
  cases r with
  | cl r => exact .cl r
  | ml n a b c => exact .ml n a b c
  | md n a b c => exact .md n a b c
  | mt n a b c => exact .mt n a b c
  | mo n a b c => exact .mo n a b c
/-- a dict of our own that may still be written -/
def isDic : D → Bool
  | .dict _ => true
  | .tdict _ => true
  | _ => false
theorem RV.rep (r : RV K fo ls H b v d) (h : isDic d = false) : Rep K H v d := by
  cases r with
  | cl r => exact r.mono sub_le
  | ml n a b c => exact .list a b (c.mono sub_le)
  | md n a b c => cases h
  | mt n a b c => cases h
  | mo n a b c => exact .obj a b (c.mono sub_le)
theorem RV.mono (e : Grow H H') (r : RV K fo ls H b v d) : RV K fo ls H' b v d := by
  cases r with
  | cl r => exact .cl (r.mono (sub_same e))
  | ml n a b c => exact .ml n (e _ _ a) b (c.mono (sub_same e))
  | md n a b c => exact .md n (e _ _ a) b (c.mono (sub_same e))
  | mt n a b c => exact .mt n (e _ _ a) b (c.mono (sub_same e))
  | mo n a b c => exact .mo n a (e _ _ b) (c.mono (sub_same e))
theorem RV.list {ds : List D} (r : RV K fo ls H b v (.list ds)) : ∃ a xs, v = .ref a ∧ H a = some (.lst xs) ∧ xs.length ≤ sizeLine ∧ Reps K (sub H ls) xs ds := by
  cases r with
  | cl r =>
    cases r with
    | list h l r => exact ⟨_, _, rfl, sub_le _ _ h, l, r⟩
  | ml n h l r => exact ⟨_, _, rfl, h, l, r⟩
theorem RV.tup {ds : List D} (r : RV K fo ls H b v (.tup ds)) : ∃ a xs, v = .ref a ∧ SqT K H a xs ∧ xs.length ≤ sizeLine ∧ Reps K (sub H ls) xs ds := by
  cases r with
  | cl r =>
    cases r with
    | tup h l r => exact ⟨_, _, rfl, sameT sub_le h, l, r⟩
theorem RV.tdict {ds : List (List Key × D)} (r : RV K fo ls H b v (.tdict ds)) : ∃ a xs, v = .ref a ∧ Rd H a (.dT xs) ∧ xs.length ≤ sizeLine ∧ RepTs K (sub H ls) xs ds := by
  cases r with
  | cl r =>
    cases r with
    | tdict h l k r => exact ⟨_, _, rfl, .inr ⟨_, sub_le _ _ h⟩, l, k, r⟩
  | mt n h l r => exact ⟨_, _, rfl, .inl h, l, r⟩
theorem RV.dict {ds : List (Key × D)} (r : RV K fo ls H b v (.dict ds)) : ∃ a xs, v = .ref a ∧ Rd H a (.dK xs) ∧ xs.length ≤ sizeLine ∧ RepKs K (sub H ls) xs ds := by
  cases r with
  | cl r =>
    cases r with
    | dict h l r => exact ⟨_, _, rfl, .inr ⟨_, sub_le _ _ h⟩, l, r⟩
  | md n h l r => exact ⟨_, _, rfl, .inl h, l, r⟩
end
/-! ### names as data -/
inductive DV where
  | u | v (d : D) | m (d : D) | s (d : D)
structure Fm where
  ls0 : List Addr
  H0 : Hp
  Hi : Hp
def SlotR (K : PySem.W.Frag) (fo ls own : List Addr) (H : Hp) (s : Option V) : DV → Prop
  | .u => True
  | .v d => ∃ x, s = some x ∧ Rep K (sub H ls) x d
  | .m d => ∃ a, s = some (.ref a) ∧ a ∈ own ∧ RV K fo ls H true (.ref a) d
  | .s d => ∃ a C dx n fs ds, s = some (.ref a) ∧ a ∈ fo ∧ d = .obj n ds ∧ PySem.W.nsIn K mainGlobals n = some (some (.ref C)) ∧ H a = some (.ins C dx fs) ∧ RepFs K (sub H ls) fs ds
structure EnvD (K : PySem.W.Frag) (F : Fm) (own : List Addr) (σ : L2.St) (δ : List DV) (H : Hp) : Prop where
  same : Same F.H0 H
  imm : Grow F.Hi (sub H (F.ls0 ++ own))
  tabs : LamX.Tabs TabsC.T H
  new : ∀ l, l ∈ own → F.H0 l = none
  trk : ∀ l, l ∈ F.ls0 ++ own → ∃ o, H l = some o ∧ Plain o
  sep : ∀ l, l ∈ own → l ∉ F.ls0
  len : σ.length = δ.length
  slot : ∀ (i : Nat) (dv : DV), δ[i]? = some dv → ∃ s, σ[i]? = some s ∧ SlotR K F.ls0 (F.ls0 ++ own) own H s dv
  lent : ∀ (i : Nat) (d : D) (a : Addr), δ[i]? = some (.s d) → σ[i]? = some (some (.ref a)) → F.H0 a = none
  alone : ∀ (i j : Nat) (di dj : D) (a : Addr), δ[i]? = some (.s di) → δ[j]? = some (.s dj) → σ[i]? = some (some (.ref a)) → σ[j]? = some (some (.ref a)) → i = j
  apart : ∀ (i j : Nat) (di dj : D) (a : Addr), δ[i]? = some (.m di) → δ[j]? = some (.m dj) → σ[i]? = some (some (.ref a)) → σ[j]? = some (some (.ref a)) → i = j
theorem SlotR.mono {K : PySem.W.Frag} {fo ls own : List Addr} {H H' : Hp} {s : Option V} {dv : DV} (e : Grow H H') (h : SlotR K fo ls own H s dv) : SlotR K fo ls own H' s dv := by
  cases dv with
  | u => trivial
  | v d => obtain ⟨x, e1, r⟩ := h; exact ⟨x, e1, r.mono (sub_same e)⟩
  | m d => obtain ⟨a, e1, h1, r⟩ := h; exact ⟨a, e1, h1, r.mono e⟩
  | s d => obtain ⟨a, C, dx, n, fs, ds, e1, h1, h2, h3, h4, r⟩ := h; exact ⟨a, C, dx, n, fs, ds, e1, h1, h2, h3, e _ _ h4, r.mono (sub_same e)⟩
section
variable {K : PySem.W.Frag} {F : Fm} {own : List Addr} {σ : L2.St} {δ : List DV} {H H' : Hp}
theorem EnvD.grow (E : EnvD K F own σ δ H) (e : Same H H') : EnvD K F own σ δ H' :=
  ⟨E.same.trans e, E.imm.trans (sub_same e), e.tb E.tabs, E.new, fun l h => by
    obtain ⟨o, q, n⟩ := E.trk l h
    exact ⟨o, e _ _ q n.1, n⟩, E.sep, E.len, fun i dv h => let ⟨s, q, r⟩ := E.slot i dv h; ⟨s, q, r.mono e⟩, E.lent, E.alone, E.apart⟩
end
/-! ### errors as data -/
/-- the exception that lies: its class, its one field -/
def RepEr (K : PySem.W.Frag) (ls : List Addr) (H : Hp) (cls : Value) (dd : Option Addr) (er : Er) : Prop :=
  (∃ C, PySem.W.nsIn K mainGlobals er.cls = some (some (.ref C)) ∧ cls = .ref C) ∧ ∀ f d, er.arg = some (f, d) → ∃ dx v, dd = some dx ∧ sub H ls dx = some (.xd [(f, v)]) ∧ Rep K (sub H ls) v d
theorem RepEr.less {K : PySem.W.Frag} {ls ls' : List Addr} {H : Hp} {cls : Value} {dd : Option Addr} {er : Er} (h : RepEr K ls H cls dd er) (e : ∀ a, a ∈ ls' → a ∈ ls) : RepEr K ls' H cls dd er :=
  ⟨h.1, fun f d q => let ⟨dx, v, a, b, c⟩ := h.2 f d q; ⟨dx, v, a, (sub_less e) _ _ b, c.mono (sub_less e)⟩⟩
abbrev NoE : Er → Prop := fun _ => False
abbrev NoW : WX := fun _ _ _ _ => False
/-- an error that is wished for is taken -/
def Pass (K : PySem.W.Frag) (W : WX) (ls : List Addr) (σ : L2.St) (H : Hp) (EK : Er → Prop) : Prop := ∀ er cls dd H', EK er → Same H H' → RepEr K ls H' cls dd er → W cls dd σ H'
theorem Pass.on {K : PySem.W.Frag} {W : WX} {ls : List Addr} {σ : L2.St} {H H' : Hp} {EK : Er → Prop} (h : Pass K W ls σ H EK) (e : Same H H') : Pass K W ls σ H' EK := fun er cls dd H2 k q r => h er cls dd H2 k (e.trans q) r
/-! ### the judgements -/
/-- an expression as data: from the names, what is wanted of its value, of an error -/
abbrev TM := List DV → (D → Prop) → (Er → Prop) → Prop
abbrev BM := List DV → (Bool → Prop) → (Er → Prop) → Prop
abbrev LM := List DV → (List D → Prop) → (Er → Prop) → Prop
inductive RVs (K : PySem.W.Frag) (fo ls : List Addr) (H : Hp) (b : Bool) : List V → List D → Prop
  | nil : RVs K fo ls H b [] []
  | cons {v : V} {vs : List V} {d : D} {ds : List D} : RV K fo ls H b v d → RVs K fo ls H b vs ds → RVs K fo ls H b (v :: vs) (d :: ds)
theorem RVs.mono {K : PySem.W.Frag} {fo ls : List Addr} {H H' : Hp} {b : Bool} (e : Same H H') : ∀ {vs : List V} {ds : List D}, RVs K fo ls H b vs ds → RVs K fo ls H' b vs ds
  | _, _, .nil => .nil
  | _, _, .cons r t => .cons (r.mono e) (RVs.mono e t)
theorem RVs.clean {K : PySem.W.Frag} {fo ls : List Addr} {H : Hp} : ∀ {vs : List V} {ds : List D}, RVs K fo ls H false vs ds → Reps K (sub H ls) vs ds
  | _, _, .nil => .nil
  | _, _, .cons r t => .cons r.clean (RVs.clean t)
theorem RVs.up {K : PySem.W.Frag} {fo ls : List Addr} {H : Hp} {b : Bool} : ∀ {vs : List V} {ds : List D}, RVs K fo ls H b vs ds → RVs K fo ls H true vs ds
  | _, _, .nil => .nil
  | _, _, .cons r t => .cons r.up (RVs.up t)
theorem RVs.length {K : PySem.W.Frag} {fo ls : List Addr} {H : Hp} {b : Bool} : ∀ {vs : List V} {ds : List D}, RVs K fo ls H b vs ds → vs.length = ds.length
  | _, _, .nil => rfl
  | _, _, .cons _ t => by rw [List.length_cons, List.length_cons, RVs.length t]
structure At (K : PySem.W.Frag) (W : WX) (σ : L2.St) (H : Hp) (F : Fm) (own : List Addr) (δ : List DV) (EK : Er → Prop) : Prop where
  env : EnvD K F own σ δ H
  pass : Pass K W (F.ls0 ++ own) σ H EK
theorem At.on {K : PySem.W.Frag} {W : WX} {σ : L2.St} {H H' : Hp} {F : Fm} {own : List Addr} {δ : List DV} {EK : Er → Prop} (h : At K W σ H F own δ EK) (e : Same H H') : At K W σ H' F own δ EK := ⟨h.env.grow e, h.pass.on e⟩
def tm (K : PySem.W.Frag) (W : WX) (b : Bool) (m : TM) : TE := fun σ H Q => ∃ (F : Fm) (own : List Addr) (δ : List DV) (P : D → Prop) (EK : Er → Prop), At K W σ H F own δ EK ∧ m δ P EK ∧
  ∀ d v H', P d → Same H H' → RV K F.ls0 (F.ls0 ++ own) H' b v d → Q v H'
def DE (X : Cx) (W : WX) (e : Expr) (b : Bool) (m : TM) : Prop := PE X e (tm X.K W b m)
def tb (K : PySem.W.Frag) (W : WX) (m : BM) : TT := fun σ H Q => ∃ (F : Fm) (own : List Addr) (δ : List DV) (P : Bool → Prop) (EK : Er → Prop), At K W σ H F own δ EK ∧ m δ P EK ∧ ∀ c H', P c → Same H H' → Q c H'
def DT (X : Cx) (W : WX) (e : Expr) (m : BM) : Prop := PT X e (tb X.K W m)
def DW (X : Cx) (W : WX) (e : Expr) (m : BM) : Prop := PW X e (tb X.K W m)
def tal (K : PySem.W.Frag) (W : WX) (b : Bool) (m : LM) : TA := fun σ H Q => ∃ (F : Fm) (own : List Addr) (δ : List DV) (P : List D → Prop) (EK : Er → Prop), At K W σ H F own δ EK ∧ m δ P EK ∧
  ∀ ds vs H', P ds → Same H H' → RVs K F.ls0 (F.ls0 ++ own) H' b vs ds → Q vs H'
def DA (X : Cx) (W : WX) (es : List Expr) (b : Bool) (m : LM) : Prop := PA X es (tal X.K W b m)
/-! weakening -/
theorem PE.imp {X : Cx} {e : Expr} {t t' : TE} (h : PE X e t) (k : ∀ σ H Q, t' σ H Q → t σ H Q) : PE X e t' := ⟨fun pins s σ H Q I q => h.run pins s σ H Q I (k _ _ _ q)⟩
theorem PT.imp {X : Cx} {e : Expr} {t t' : TT} (h : PT X e t) (k : ∀ σ H Q, t' σ H Q → t σ H Q) : PT X e t' := ⟨fun pins s σ H Q I q => h.run pins s σ H Q I (k _ _ _ q)⟩
theorem PW.imp {X : Cx} {e : Expr} {t t' : TT} (h : PW X e t) (k : ∀ σ H Q, t' σ H Q → t σ H Q) : PW X e t' := ⟨fun wh pins s σ H Q I q => h.run wh pins s σ H Q I (k _ _ _ q)⟩
theorem PA.imp {X : Cx} {es : List Expr} {t t' : TA} (h : PA X es t) (k : ∀ σ H Q, t' σ H Q → t σ H Q) : PA X es t' := ⟨fun pos pins s σ H Q I q => h.run pos pins s σ H Q I (k _ _ _ q)⟩
theorem PS.imp {X : Cx} {e : Stmt} {t t' : TS} (h : PS X e t) (k : ∀ D σ H, t' D σ H → t D σ H) : PS X e t' := ⟨fun pins s σ H D I q => h.run pins s σ H D I (k _ _ _ q)⟩
theorem PSs.imp {X : Cx} {e : List Stmt} {t t' : TS} (h : PSs X e t) (k : ∀ D σ H, t' D σ H → t D σ H) : PSs X e t' := ⟨fun pins s σ H D I q => h.run pins s σ H D I (k _ _ _ q)⟩
section
variable {X : Cx} {W : WX} {a b c e : Expr} {es : List Expr} {ba bb bc : Bool} {ma mb mc : TM} {pos : Pos}
theorem DE.up (h : DE X W e ba ma) : DE X W e true ma := PE.imp h fun σ H Q ⟨F, own, δ, P, EK, A, m, q⟩ => ⟨F, own, δ, P, EK, A, m, fun d v H' p s r => q d v H' p s r.up⟩
theorem DE.dn (h : DE X W e false ma) : DE X W e ba ma := PE.imp h fun σ H Q ⟨F, own, δ, P, EK, A, m, q⟩ => ⟨F, own, δ, P, EK, A, m, fun d v H' p s r => q d v H' p s (.cl r.clean)⟩
/-! ### names, constants -/
def mC (d : D) : TM := fun _ Q _ => Q d
def mVar (i : Nat) : TM := fun δ Q _ => ∃ d, δ[i]? = some (.v d) ∧ Q d
def mMut (i : Nat) : TM := fun δ Q _ => ∃ d, δ[i]? = some (.m d) ∧ Q d
theorem de_const {v : V} {d : D} (h : PE X e (tC v)) (r : ∀ H, Rep X.K H v d) : DE X W e false (mC d) := PE.imp h fun σ H Q ⟨F, own, δ, P, EK, A, m, q⟩ => q d v H m (Same.refl H) (.cl (r _))
theorem de_int {i : Int} {j : Nat} : DE X W (.Constant (.int i) j pos) false (mC (.int i)) := de_const pe_int fun _ => .int i
theorem de_bool {i : Bool} {j : Nat} : DE X W (.Constant (.bool i) j pos) false (mC (.bool i)) := de_const pe_bl fun _ => .bool i
theorem de_var (i : Nat) {x : Str} (h : PE X (.Name x pos) (tVar i)) : DE X W (.Name x pos) false (mVar i) := PE.imp h fun σ H Q ⟨F, own, δ, P, EK, A, m, q⟩ => by
  obtain ⟨d, e, m⟩ := m
  obtain ⟨s, hs, x, rfl, r⟩ := A.env.slot i _ e
  exact ⟨x, hs, q d x H m (Same.refl H) (.cl r)⟩
theorem de_mut (i : Nat) {x : Str} (h : PE X (.Name x pos) (tVar i)) : DE X W (.Name x pos) true (mMut i) := PE.imp h fun σ H Q ⟨F, own, δ, P, EK, A, m, q⟩ => by
  obtain ⟨d, e, m⟩ := m
  obtain ⟨s, hs, x, rfl, _, r⟩ := A.env.slot i _ e
  exact ⟨_, hs, q d _ H m (Same.refl H) r⟩
/-! ### operators -/
def mBin (f : D → D → (D → Prop) → Prop) (ma mb : TM) : TM := fun δ Q E => ma δ (fun x => mb δ (fun y => f x y Q) E) E
def LinkOp (K : PySem.W.Frag) (r : R2) (f : D → D → (D → Prop) → Prop) : Prop := ∀ (fo ls : List Addr) (H : Hp) (x y : V) (dx dy : D) (P : D → Prop) (Q : VK), (∀ l, l ∈ ls → ∃ o, H l = some o ∧ Plain o) → RV K fo ls H true x dx → RV K fo ls H true y dy → f dx dy P →
  (∀ d v H', P d → Same H H' → Rep K (sub H' ls) v d → Q v H') → r x y H Q
theorem link_two {r : R2} {f : D → D → (D → Prop) → Prop} (lk : LinkOp X.K r f) {σ : L2.St} {H : Hp} {Q : VK} (h : tm X.K W false (mBin f ma mb) σ H Q) : tOp r (tm X.K W ba ma) (tm X.K W bb mb) σ H Q := by
  obtain ⟨F, own, δ, P, EK, A, m, q⟩ := h
  refine ⟨F, own, δ, _, EK, A, m, fun dx x H1 m1 s1 r1 => ?_⟩
  refine ⟨F, own, δ, _, EK, A.on s1, m1, fun dy y H2 m2 s2 r2 => ?_⟩
  exact lk _ _ H2 x y dx dy P Q (A.env.grow (s1.trans s2)).trk (r1.up.mono s2) r2.up m2 fun d v H' p s3 r3 => q d v H' p ((s1.trans s2).trans s3) (.cl r3)
theorem de_op {op : Operator} {r : R2} {f : D → D → (D → Prop) → Prop} (ho : OpR X (binaryOp op) r) (lk : LinkOp X.K r f) (ha : DE X W a ba ma) (hb : DE X W b bb mb) : DE X W (.BinOp a op b pos) false (mBin f ma mb) :=
  PE.imp (pe_op ho ha hb) fun _ _ _ h => link_two lk h
/-- comparisons: the answer is a bool, the heap as it was -/
def mCmp (f : D → D → (Bool → Prop) → Prop) (ma mb : TM) : TM := fun δ Q E => ma δ (fun x => mb δ (fun y => f x y fun c => Q (.bool c)) E) E
def mCmpT (f : D → D → (Bool → Prop) → Prop) (ma mb : TM) : BM := fun δ Q E => ma δ (fun x => mb δ (fun y => f x y Q) E) E
def LinkCmp (K : PySem.W.Frag) (r : R2) (f : D → D → (Bool → Prop) → Prop) : Prop := ∀ (fo ls : List Addr) (H : Hp) (x y : V) (dx dy : D) (P : Bool → Prop) (Q : VK), RV K fo ls H true x dx → RV K fo ls H true y dy → f dx dy P → (∀ c, P c → Q (.bl c) H) → r x y H Q
theorem LinkCmp.op {K : PySem.W.Frag} {r : R2} {f : D → D → (Bool → Prop) → Prop} (lk : LinkCmp K r f) : LinkOp K r fun x y Q => f x y fun c => Q (.bool c) := fun fo ls H x y dx dy P Q _ r1 r2 h q =>
  lk fo ls H x y dx dy _ Q r1 r2 h fun c p => q _ _ H p (Same.refl H) (.bool c)
theorem de_cmp {op : CmpOp} {r : R2} {f : D → D → (Bool → Prop) → Prop} (ho : OpR X (compareOp op) r) (lk : LinkCmp X.K r f) (hm : behindInMarks op b = false) (ha : DE X W a ba ma) (hb : DE X W b bb mb) : DE X W (.Compare a [op] [b] pos) false (mCmp f ma mb) :=
  PE.imp (pe_cmpR ho ha hb hm) fun _ _ _ h => link_two lk.op h
theorem dt_cmp {op : CmpOp} {r : R2} {f : D → D → (Bool → Prop) → Prop} (ho : OpR X (compareOp op) r) (lk : LinkCmp X.K r f) (hm : behindInMarks op b = false) (ha : DE X W a ba ma) (hb : DE X W b bb mb) : DT X W (.Compare a [op] [b] pos) (mCmpT f ma mb) :=
  PT.imp (pt_cmpR ho ha hb hm) fun σ H Q ⟨F, own, δ, P, EK, A, m, q⟩ => by
    refine ⟨F, own, δ, _, EK, A, m, fun dx x H1 m1 s1 r1 => ?_⟩
    refine ⟨F, own, δ, _, EK, A.on s1, m1, fun dy y H2 m2 s2 r2 => ?_⟩
    exact lk _ _ H2 x y dx dy P _ (r1.up.mono s2) r2.up m2 fun c p => ⟨c, rfl, q c H2 p (s1.trans s2)⟩
def mChain (f g : D → D → (Bool → Prop) → Prop) (ma mb mc : TM) : TM := fun δ Q E => ma δ (fun x => mb δ (fun y => f x y fun c => if c = true then mc δ (fun z => g y z fun c' => Q (.bool c')) E else Q (.bool false)) E) E
def mChainT (f g : D → D → (Bool → Prop) → Prop) (ma mb mc : TM) : BM := fun δ Q E => ma δ (fun x => mb δ (fun y => f x y fun c => if c = true then mc δ (fun z => g y z Q) E else Q false) E) E
theorem de_chain {op op' : CmpOp} {r r' : R2} {f g : D → D → (Bool → Prop) → Prop} (ho : OpR X (compareOp op) r) (lk : LinkCmp X.K r f) (ho' : OpR X (compareOp op') r') (lk' : LinkCmp X.K r' g) (ha : DE X W a ba ma) (hb : DE X W b bb mb) (hc : DE X W c bc mc) (hm : lastMarks [op, op'] [b, c] = false := by with_unfolding_all rfl) :
    DE X W (.Compare a [op, op'] [b, c] pos) false (mChain f g ma mb mc) :=
  PE.imp (pe_chain ho ho' ha hb hc hm) fun σ H Q ⟨F, own, δ, P, EK, A, m, q⟩ => by
    refine ⟨F, own, δ, _, EK, A, m, fun dx x H1 m1 s1 r1 => ?_⟩
    refine ⟨F, own, δ, _, EK, A.on s1, m1, fun dy y H2 m2 s2 r2 => ?_⟩
    refine lk _ _ H2 x y dx dy _ _ (r1.up.mono s2) r2.up m2 fun k p => ⟨k, rfl, ?_⟩
    cases k with
    | false => exact iteF (q _ _ H2 (by simpa using p) (s1.trans s2) (.cl (.bool false)))
    | true =>
      refine iteT ⟨F, own, δ, _, EK, A.on (s1.trans s2), (by simpa using p), fun dz z H3 m3 s3 r3 => ?_⟩
      exact lk' _ _ H3 y z dy dz _ _ (r2.up.mono s3) r3.up m3 fun k' p' => q _ _ H3 p' ((s1.trans s2).trans s3) (.cl (.bool k'))
theorem dt_chain {op op' : CmpOp} {r r' : R2} {f g : D → D → (Bool → Prop) → Prop} (ho : OpR X (compareOp op) r) (lk : LinkCmp X.K r f) (ho' : OpR X (compareOp op') r') (lk' : LinkCmp X.K r' g) (ha : DE X W a ba ma) (hb : DE X W b bb mb) (hc : DE X W c bc mc) (hm : lastMarks [op, op'] [b, c] = false := by with_unfolding_all rfl) :
    DT X W (.Compare a [op, op'] [b, c] pos) (mChainT f g ma mb mc) :=
  PT.imp (pt_chain ho ho' ha hb hc hm) fun σ H Q ⟨F, own, δ, P, EK, A, m, q⟩ => by
    refine ⟨F, own, δ, _, EK, A, m, fun dx x H1 m1 s1 r1 => ?_⟩
    refine ⟨F, own, δ, _, EK, A.on s1, m1, fun dy y H2 m2 s2 r2 => ?_⟩
    refine lk _ _ H2 x y dx dy _ _ (r1.up.mono s2) r2.up m2 fun k p => ⟨k, rfl, ?_⟩
    cases k with
    | false => exact iteF ⟨false, rfl, q _ H2 (by simpa using p) (s1.trans s2)⟩
    | true =>
      refine iteT ⟨F, own, δ, _, EK, A.on (s1.trans s2), (by simpa using p), fun dz z H3 m3 s3 r3 => ?_⟩
      exact lk' _ _ H3 y z dy dz _ _ (r2.up.mono s3) r3.up m3 fun k' p' => ⟨k', rfl, q _ H3 p' ((s1.trans s2).trans s3)⟩
end
end DL
set_option Elab.async false
set_option linter.all false
set_option maxRecDepth 100000
set_option maxHeartbeats 4000000
/-! DL2: and, or, not; argument lists, displays; places, slices; built-ins. -/
namespace DL
open PySem PySem.Spec PyProof.Rows L2
variable [TabsC]
section
variable {X : Cx} {W : WX} {a b c e : Expr} {es rest : List Expr} {ba bb bc : Bool} {ma mb mc : TM} {na nb : BM} {la : LM} {pos : Pos}
/-! ### tests -/
/-- a value that is a bool, as a test -/
def mTest (ma : TM) : BM := fun δ Q E => ma δ (fun d => ∃ c, d = .bool c ∧ Q c) E
def mVal (na : BM) : TM := fun δ Q E => na δ (fun c => Q (.bool c)) E
theorem RV.isBool {K : PySem.W.Frag} {fo ls : List Addr} {H : Hp} {b : Bool} {v : V} {c : Bool} (r : RV K fo ls H b v (.bool c)) : v = .bl c := by
  cases r with
  | cl r => cases r; rfl
theorem dt_val (ha : DE X W a ba ma) (he : ∀ whole, isTrue a X.env whole = (do let v ← whole; standAt a.pos; holding [v] (truthy v)) := by intro _; rfl) : DT X W a (mTest ma) :=
  PT.imp (pt_val ha he) fun σ H Q ⟨F, own, δ, P, EK, A, m, q⟩ => ⟨F, own, δ, _, EK, A, m, fun d v H' ⟨c, ed, p⟩ s r => by
    subst ed
    exact ⟨c, r.isBool, q c H' p s⟩⟩
def mNotT (na : BM) : BM := fun δ Q E => na δ (fun c => Q (!c)) E
def mAndT (na nb : BM) : BM := fun δ Q E => na δ (fun c => if c = true then nb δ Q E else Q false) E
def mOrT (na nb : BM) : BM := fun δ Q E => na δ (fun c => if c = true then Q true else nb δ Q E) E
theorem dt_not (ha : DT X W a na) : DT X W (.UnaryOp .Not a pos) (mNotT na) :=
  PT.imp (pt_not ha) fun σ H Q ⟨F, own, δ, P, EK, A, m, q⟩ => ⟨F, own, δ, _, EK, A, m, fun c H' p s => q _ H' p s⟩
theorem dw_and1 (ha : DT X W a na) : DW X W (.BoolOp .And [a] pos) na := pw_and1 ha
theorem dw_or1 (ha : DT X W a na) : DW X W (.BoolOp .Or [a] pos) na := pw_or1 ha
theorem dw_and (ha : DT X W a na) (hb : DW X W (.BoolOp .And (b :: rest) pos) nb) : DW X W (.BoolOp .And (a :: b :: rest) pos) (mAndT na nb) :=
  PW.imp (pw_and ha hb) fun σ H Q ⟨F, own, δ, P, EK, A, m, q⟩ => ⟨F, own, δ, _, EK, A, m, fun c H' p s => by
    cases c with
    | true => exact iteT ⟨F, own, δ, _, EK, A.on s, (by simpa using p), fun c H2 p2 s2 => q c H2 p2 (s.trans s2)⟩
    | false => exact iteF (q _ H' (by simpa using p) s)⟩
theorem dw_or (ha : DT X W a na) (hb : DW X W (.BoolOp .Or (b :: rest) pos) nb) : DW X W (.BoolOp .Or (a :: b :: rest) pos) (mOrT na nb) :=
  PW.imp (pw_or ha hb) fun σ H Q ⟨F, own, δ, P, EK, A, m, q⟩ => ⟨F, own, δ, _, EK, A, m, fun c H' p s => by
    cases c with
    | true => exact iteT (q _ H' (by simpa using p) s)
    | false => exact iteF ⟨F, own, δ, _, EK, A.on s, (by simpa using p), fun c H2 p2 s2 => q c H2 p2 (s.trans s2)⟩⟩
theorem dt_w (h : DW X W a na) : DT X W a na := PW.pt h
/-- .. as values -/
theorem de_not (ha : DE X W a ba ma) : DE X W (.UnaryOp .Not a pos) false (mVal (mNotT (mTest ma))) :=
  PE.imp (pe_not ha) fun σ H Q ⟨F, own, δ, P, EK, A, m, q⟩ => ⟨F, own, δ, _, EK, A, m, fun d v H' ⟨c, ed, p⟩ s r => by
    subst ed
    exact ⟨c, r.isBool, q _ _ H' p s (.cl (.bool _))⟩⟩
theorem de_one {op : BoolOp} (ha : DE X W a ba ma) : DE X W (.BoolOp op [a] pos) ba ma := pe_one ha
def mAnd (ma mb : TM) : TM := fun δ Q E => ma δ (fun d => ∃ c, d = .bool c ∧ if c = true then mb δ Q E else Q (.bool false)) E
def mOr (ma mb : TM) : TM := fun δ Q E => ma δ (fun d => ∃ c, d = .bool c ∧ if c = true then Q (.bool true) else mb δ Q E) E
theorem de_and (ha : DE X W a ba ma) (hb : DE X W (.BoolOp .And (b :: rest) pos) bb mb) : DE X W (.BoolOp .And (a :: b :: rest) pos) bb (mAnd ma mb) :=
  PE.imp (pe_and ha hb) fun σ H Q ⟨F, own, δ, P, EK, A, m, q⟩ => ⟨F, own, δ, _, EK, A, m, fun d v H' ⟨c, ed, p⟩ s r => by
    subst ed
    refine ⟨c, r.isBool, ?_⟩
    cases c with
    | true => exact iteT ⟨F, own, δ, _, EK, A.on s, (by simpa using p), fun d v H2 p2 s2 r2 => q d v H2 p2 (s.trans s2) r2⟩
    | false => exact iteF (q _ _ H' (by simpa using p) s (.cl (.bool _)))⟩
def mIf (na : BM) (ma mb : TM) : TM := fun δ Q E => na δ (fun c => if c = true then ma δ Q E else mb δ Q E) E
theorem de_if (hc : DT X W c na) (ha : DE X W a ba ma) (hb : DE X W b ba mb) : DE X W (.IfExp c a b pos) ba (mIf na ma mb) :=
  PE.imp (pe_ifExp hc ha hb) fun σ H Q ⟨F, own, δ, P, EK, A, m, q⟩ => ⟨F, own, δ, _, EK, A, m, fun c H' p s => by
    cases c with
    | true => exact iteT ⟨F, own, δ, _, EK, A.on s, (by simpa using p), fun d v H2 p2 s2 r2 => q d v H2 p2 (s.trans s2) r2⟩
    | false => exact iteF ⟨F, own, δ, _, EK, A.on s, (by simpa using p), fun d v H2 p2 s2 r2 => q d v H2 p2 (s.trans s2) r2⟩⟩
def isNoneD : D → Bool | .none => true | _ => false
theorem RV.isNone {K : PySem.W.Frag} {fo ls : List Addr} {H : Hp} {b : Bool} {v : V} {d : D} (r : RV K fo ls H b v d) : decide (v = .non) = isNoneD d := by
  cases r with
  | cl r => cases r <;> rfl
  | ml _ _ _ _ => rfl
  | md _ _ _ _ => rfl
  | mt _ _ _ _ => rfl
  | mo _ _ _ _ => rfl
def fIs (x y : D) (Q : Bool → Prop) : Prop := y = .none ∧ Q (isNoneD x)
def fIsNot (x y : D) (Q : Bool → Prop) : Prop := y = .none ∧ Q (!isNoneD x)
theorem RV.non {K : PySem.W.Frag} {fo ls : List Addr} {H : Hp} {b : Bool} {v : V} (r : RV K fo ls H b v .none) : v = .non := by
  cases r with
  | cl r => cases r; rfl
theorem RV.isInt {K : PySem.W.Frag} {fo ls : List Addr} {H : Hp} {b : Bool} {v : V} {i : Int} (r : RV K fo ls H b v (.int i)) : v = .int i := by
  cases r with
  | cl r => cases r; rfl
theorem RV.isStr {K : PySem.W.Frag} {fo ls : List Addr} {H : Hp} {b : Bool} {v : V} {i : Str} (r : RV K fo ls H b v (.str i)) : v = .str i := by
  cases r with
  | cl r => cases r; rfl
/-! ### argument lists -/
def mNil : LM := fun _ Q _ => Q []
def mCons (ma : TM) (la : LM) : LM := fun δ Q E => ma δ (fun d => la δ (fun ds => Q (d :: ds)) E) E
theorem da_nil : DA X W [] ba mNil := PA.imp pa_nil fun σ H Q ⟨F, own, δ, P, EK, A, m, q⟩ => q [] [] H m (Same.refl H) .nil
theorem da_cons (ha : DE X W e ba ma) (hr : DA X W es ba la) (hs : starEach (e :: es) X.env = (false, eval e X.env) :: starEach es X.env := by rfl) : DA X W (e :: es) ba (mCons ma la) :=
  PA.imp (pa_cons ha hr hs) fun σ H Q ⟨F, own, δ, P, EK, A, m, q⟩ => ⟨F, own, δ, _, EK, A, m, fun d v H1 m1 s1 r1 =>
    ⟨F, own, δ, _, EK, A.on s1, m1, fun ds vs H2 m2 s2 r2 => q _ _ H2 m2 (s1.trans s2) (.cons (r1.mono s2) r2)⟩⟩
/-! ### displays -/
def mTup (la : LM) : TM := fun δ Q E => la δ (fun ds => ds.length ≤ sizeLine ∧ Q (.tup ds)) E
def mLst (la : LM) : TM := fun δ Q E => la δ (fun ds => ds.length ≤ sizeLine ∧ Q (.list ds)) E
theorem de_tup {x1 : Nat} (h : DA X W es false la) : DE X W (.Tuple es x1 pos) false (mTup la) :=
  PE.imp (pe_tup h) fun σ H Q ⟨F, own, δ, P, EK, A, m, q⟩ => ⟨F, own, δ, _, EK, A, m, fun ds vs H1 m1 s1 r1 => by
    obtain ⟨hl, m1⟩ := m1
    have hz : vs.length ≤ sizeLine := by rw [r1.length]; exact hl
    refine ⟨hz, fun p hp => ?_⟩
    have hn : p ∉ F.ls0 ++ own := fun z => by
      obtain ⟨o, e, nn⟩ := (A.env.grow s1).trk p z
      rw [hp] at e; cases e
    refine q _ _ _ m1 (s1.trans (same_upd hp)) (.cl (.tup (.of ?_) hz (r1.clean.mono (sub_same (same_upd hp).ob))))
    rw [sub_out hn]
    exact upd_same⟩
/-- a new container of our own: it was not there, its items do not hang on it -/
def tf (K : PySem.W.Frag) (W : WX) (m : TM) : TE := fun σ H Q => ∃ (F : Fm) (own : List Addr) (δ : List DV) (P : D → Prop) (EK : Er → Prop), At K W σ H F own δ EK ∧ m δ P EK ∧
  ∀ d p H', P d → H p = none → Same H H' → FV K (p :: (F.ls0 ++ own)) H' p d → Q (.ref p) H'
def DF (X : Cx) (W : WX) (e : Expr) (m : TM) : Prop := PE X e (tf X.K W m)
theorem new_out {K : PySem.W.Frag} {W : WX} {σ : L2.St} {H : Hp} {F : Fm} {own : List Addr} {δ : List DV} {EK : Er → Prop} {p : Addr} (A : At K W σ H F own δ EK) (hp : H p = none) : p ∉ F.ls0 ++ own := fun z => by
  obtain ⟨o, e, nn⟩ := A.env.trk p z
  rw [hp] at e; cases e
theorem FV.clean {K : PySem.W.Frag} {ls : List Addr} {H : Hp} {p : Addr} {d : D} (hp : p ∉ ls) (hd : isDic d = false) (r : FV K (p :: ls) H p d) : Rep K (sub H ls) (.ref p) d := by
  have le : Grow (sub H (p :: ls)) (sub H ls) := sub_less fun a h => List.mem_cons_of_mem _ h
  cases r with
  | l h l r => exact .list (by rw [sub_out hp]; exact h) l (r.mono le)
  | d h l r => cases hd
  | t h l r => cases hd
  | o c h r => exact .obj c (by rw [sub_out hp]; exact h) (r.mono le)
/-- a cell's tracking told anew -/
theorem Inv.retrack {pins : List (Addr × Obj)} {σ : L2.St} {H : Hp} {s : Shared} {p : Addr} {o : HO} (I : Inv X pins σ H s) (mu : Mut (H p)) (new : ObjOk X.prog X.w (upd H p o) s.heap p o) : Inv X pins σ (upd H p o) s := by
  have there : ∃ u, s.heap.get? p = some u := by
    cases e : H p with
    | none => rw [e] at mu; exact mu.elim
    | some u => exact objOk_get (I.hok p u e)
  exact I.write (h' := s.heap) (t' := s.toks) mu (.inl rfl) (fun _ _ _ h => h) there new
/-- a dict is locked for good -/
theorem Inv.locked {pins : List (Addr × Obj)} {σ : L2.St} {H : Hp} {s : Shared} {p : Addr} {kvs : List (Key × V)} (I : Inv X pins σ H s) (h : H p = some (.dK kvs)) : ∃ od, Inv X pins σ (upd H p (.frz od (.dK kvs))) s := by
  have x : ObjOk X.prog X.w H s.heap p (.dK kvs) := I.hok p _ h
  obtain ⟨od, ho⟩ := objOk_get x
  exact ⟨od, Inv.retrack I (by rw [h]; trivial) ⟨ho, x⟩⟩
theorem Inv.lockedT {pins : List (Addr × Obj)} {σ : L2.St} {H : Hp} {s : Shared} {p : Addr} {kvs : List (List Key × V)} (I : Inv X pins σ H s) (h : H p = some (.dT kvs)) : ∃ od, Inv X pins σ (upd H p (.frz od (.dT kvs))) s := I.lock h trivial
theorem pe_lockd {t : TE} (h : PE X e t) : PE X e (fun σ H Q => t σ H fun v H1 => Q v H1 ∨ (∃ a kvs, v = .ref a ∧ H1 a = some (.dK kvs) ∧ ∀ od, Q v (upd H1 a (.frz od (.dK kvs)))) ∨ ∃ a kvs, v = .ref a ∧ H1 a = some (.dT kvs) ∧ ∀ od, Q v (upd H1 a (.frz od (.dT kvs)))) := by
  refine ⟨fun pins s σ H Q I q => ?_⟩
  refine thn (h.run pins s σ H _ I q) fun u s1 ⟨v, H1, I1, rv, z⟩ => ?_
  rcases z with z | ⟨a, kvs, ev, ha, z⟩ | ⟨a, kvs, ev, ha, z⟩
  · exact ⟨v, H1, I1, rv, z⟩
  · obtain ⟨od, I2⟩ := Inv.locked I1 ha
    exact ⟨v, _, I2, rv, z od⟩
  · obtain ⟨od, I2⟩ := Inv.lockedT I1 ha
    exact ⟨v, _, I2, rv, z od⟩
theorem same_upd2 {H H' : Hp} {p : Addr} {o : HO} (h : H p = none) (s : Same H H') (hp : ∃ u, H' p = some u ∧ isTbl u = false ∧ ∀ c q, u ≠ LamX.CodeO c q) : Same H (upd H' p o) := by
  obtain ⟨u, e, n, m⟩ := hp
  exact Same.put s h e n m
theorem not_code {o : HO} (h : match o with | .ext _ => False | _ => True) : ∀ c q, o ≠ LamX.CodeO c q := fun c q z => by rw [z] at h; exact h
theorem DF.de (h : DF X W e ma) : DE X W e ba ma := DE.dn (PE.imp (pe_lockd h) fun σ H Q ⟨F, own, δ, P, EK, A, m, q⟩ => ⟨F, own, δ, P, EK, A, m, fun d p H' pd hp s r => by
  have hn := new_out A hp
  cases hd : isDic d with
  | false => exact .inl (q d _ H' pd s (.cl (r.clean hn hd)))
  | true =>
    cases r with
    | l _ _ _ => cases hd
    | o _ _ _ => cases hd
    | @t kvs ds h l r =>
      refine .inr (.inr ⟨p, kvs, rfl, h, fun od => q _ _ _ pd (same_upd2 hp s ⟨_, h, rfl, not_code trivial⟩) (.cl (.tdict (od := od) ?_ l r.1 ?_))⟩)
      · rw [sub_out hn]; exact upd_same
      · have e : Grow (sub H' (p :: (F.ls0 ++ own))) (sub (upd H' p (.frz od (.dT kvs))) (F.ls0 ++ own)) := by
          rw [← sub_upd (H := H') (o := .frz od (.dT kvs)) (List.mem_cons_self (a := p) (l := F.ls0 ++ own))]
          exact sub_less fun a h => List.mem_cons_of_mem _ h
        exact Reps.mono e r.2
    | @d kvs ds h l r =>
      refine .inr (.inl ⟨p, kvs, rfl, h, fun od => q _ _ _ pd (same_upd2 hp s ⟨_, h, rfl, not_code trivial⟩) (.cl (.dict (od := od) ?_ l ?_))⟩)
      · rw [sub_out hn]; exact upd_same
      · have e : Grow (sub H' (p :: (F.ls0 ++ own))) (sub (upd H' p (.frz od (.dK kvs))) (F.ls0 ++ own)) := by
          rw [← sub_upd (H := H') (o := .frz od (.dK kvs)) (List.mem_cons_self (a := p) (l := F.ls0 ++ own))]
          exact sub_less fun a h => List.mem_cons_of_mem _ h
        exact r.mono e⟩)
theorem df_lst (h : DA X W es false la) : DF X W (.List es pos) (mLst la) :=
  PE.imp (pe_lst h) fun σ H Q ⟨F, own, δ, P, EK, A, m, q⟩ => ⟨F, own, δ, _, EK, A, m, fun ds vs H1 m1 s1 r1 => by
    obtain ⟨hl, m1⟩ := m1
    have hz : vs.length ≤ sizeLine := by rw [r1.length]; exact hl
    refine ⟨hz, fun p hp => ?_⟩
    exact q _ _ _ m1 (s1.free hp) (s1.trans (same_upd hp)) (.l upd_same hz (r1.clean.mono (sub_fresh hp (same_upd hp))))⟩
/-! ### places -/
/-- the i-th item, from behind if i is negative -/
def fIx (x y : D) (Q : D → Prop) : Prop := match x, y with
  | .list ds, .int i => ∃ d, atI ds i = some d ∧ Q d
  | .tup ds, .int i => ∃ d, atI ds i = some d ∧ Q d
  | .script ns, .int i => ∃ n, atI ns i = some n ∧ Q (.int n)
  | .str z, .int i => ∃ c, z.length ≤ sizeLine ∧ atI z.cps.toList i = some c ∧ Q (.str ⟨#[c]⟩)
  | _, _ => False
theorem atI_rel {α β : Type} {R : α → β → Prop} {xs : List α} {ys : List β} {i : Int} {y : β} (hl : xs.length = ys.length) (h : ∀ (j : Nat) (y : β), ys[j]? = some y → ∃ x, xs[j]? = some x ∧ R x y) (e : atI ys i = some y) : ∃ x, atI xs i = some x ∧ R x y := by
  unfold atI at e ⊢
  rw [hl]
  cases q : ixN ys.length i with
  | none => rw [q] at e; cases e
  | some j =>
    rw [q] at e
    exact h j y e
theorem link_ix : LinkOp X.K (rIx X.K) fIx := by
  intro fo ls H x y dx dy P Q ht rx ry h q
  unfold fIx at h
  split at h
  · obtain ⟨d, e, p⟩ := h
    obtain ⟨a, xs, rfl, ha, hz, rs⟩ := rx.list
    obtain ⟨v, ev, rv⟩ := atI_rel rs.length (fun j y => rs.get') e
    exact .inl ⟨a, xs, _, v, rfl, ry.isInt, .of ha, ev, q d v H p (Same.refl H) rv⟩
  · obtain ⟨d, e, p⟩ := h
    obtain ⟨a, xs, rfl, ha, hz, rs⟩ := rx.tup
    obtain ⟨v, ev, rv⟩ := atI_rel rs.length (fun j y => rs.get') e
    exact .inr (.inl ⟨a, xs, _, v, rfl, ry.isInt, ha, ev, q d v H p (Same.refl H) rv⟩)
  · obtain ⟨n, e, p⟩ := h
    cases rx with
    | cl rx =>
      cases rx with
      | script hs hl =>
        obtain ⟨v, ev, rv⟩ := atI_rel (R := fun v n => v = V.int n) (xs := List.map V.int _) (by rw [List.length_map]) (fun j y h => ⟨.int y, by rw [List.getElem?_map, h]; rfl, rfl⟩) e
        subst rv
        exact .inl ⟨_, _, _, _, rfl, ry.isInt, sub_le.seq hs, ev, q _ _ H p (Same.refl H) (.int n)⟩
  · obtain ⟨c, hz, e, p⟩ := h
    have := rx.isStr
    subst this
    exact .inr (.inr ⟨_, _, _, rfl, ry.isInt, hz, e, q _ _ H p (Same.refl H) (.str _)⟩)
  · exact h.elim
theorem de_ix (hs : PlainIx b) (ha : DE X W a ba ma) (hb : DE X W b bb mb) : DE X W (.Subscript a b pos) false (mBin fIx ma mb) :=
  PE.imp (pe_ix ix_seq ha hb hs) fun _ _ _ h => link_two link_ix h
/-! ### calls of built-ins -/
def mB (f : List D → (D → Prop) → Prop) (la : LM) : TM := fun δ Q E => la δ (fun ds => f ds Q) E
def LinkB (K : PySem.W.Frag) (r : List V → Hp → VK → Prop) (f : List D → (D → Prop) → Prop) : Prop := ∀ (fo ls : List Addr) (H : Hp) (vs : List V) (ds : List D) (P : D → Prop) (Q : VK), (∀ l, l ∈ ls → ∃ o, H l = some o ∧ Plain o) → RVs K fo ls H true vs ds → f ds P →
  (∀ d v H', P d → Same H H' → Rep K (sub H' ls) v d → Q v H') → r vs H Q
theorem link_b {r : List V → Hp → VK → Prop} {f : List D → (D → Prop) → Prop} (lk : LinkB X.K r f) {σ : L2.St} {H : Hp} {Q : VK} (h : tm X.K W false (mB f la) σ H Q) : tCB r (tal X.K W ba la) σ H Q := by
  obtain ⟨F, own, δ, P, EK, A, m, q⟩ := h
  refine ⟨F, own, δ, _, EK, A, m, fun ds vs H1 m1 s1 r1 => ?_⟩
  exact lk _ _ H1 vs ds P Q (A.env.grow s1).trk r1.up m1 fun d v H' p s3 r3 => q d v H' p (s1.trans s3) (.cl r3)
variable {x : Str} {p : Pos} {id T : String} {r : List V → Hp → VK → Prop} {f : List D → (D → Prop) → Prop}
theorem de_callB (hc : CallR X (.builtin id) r) (lk : LinkB X.K r f) (hg : Gl X x) (hm : X.mg x = none) (hv : bootBuiltins x = some (.builtin id)) (ha : DA X W (e :: es) ba la) (hn : x ≠ "__name__" := by decide) (hdb : (x == ("__debug__" : Str)) = false := by decide)
    (he : starEach (e :: es) X.env = (false, eval e X.env) :: starEach es X.env := by rfl) (hpl : (backTo pos (starEach es X.env)).any (·.1) = false := by rfl) : DE X W (.Call (.Name x p) (e :: es) [] pos) false (mB f la) :=
  PE.imp (pe_callB hc hg hm hv ha hn hdb he hpl) fun _ _ _ h => link_b lk h
theorem de_callT (hc : CallR X (.type T) r) (lk : LinkB X.K r f) (hg : Gl X x) (hm : X.mg x = none) (hv : bootBuiltins x = some (.type T)) (ha : DA X W (e :: es) ba la) (hn : x ≠ "__name__" := by decide) (hdb : (x == ("__debug__" : Str)) = false := by decide)
    (he : starEach (e :: es) X.env = (false, eval e X.env) :: starEach es X.env := by rfl) (hpl : (backTo pos (starEach es X.env)).any (·.1) = false := by rfl) : DE X W (.Call (.Name x p) (e :: es) [] pos) false (mB f la) :=
  PE.imp (pe_callTy hc hg hm hv ha hn hdb he hpl) fun _ _ _ h => link_b lk h
/-- .. that give a new container -/
def LinkF (K : PySem.W.Frag) (r : List V → Hp → VK → Prop) (f : List D → (D → Prop) → Prop) : Prop := ∀ (fo ls : List Addr) (H : Hp) (vs : List V) (ds : List D) (P : D → Prop) (Q : VK), (∀ l, l ∈ ls → ∃ o, H l = some o ∧ Plain o) → RVs K fo ls H true vs ds → f ds P →
  (∀ d p H', P d → H p = none → Same H H' → FV K (p :: ls) H' p d → Q (.ref p) H') → r vs H Q
theorem link_f {r : List V → Hp → VK → Prop} {f : List D → (D → Prop) → Prop} (lk : LinkF X.K r f) {σ : L2.St} {H : Hp} {Q : VK} (h : tf X.K W (mB f la) σ H Q) : tCB r (tal X.K W ba la) σ H Q := by
  obtain ⟨F, own, δ, P, EK, A, m, q⟩ := h
  refine ⟨F, own, δ, _, EK, A, m, fun ds vs H1 m1 s1 r1 => ?_⟩
  exact lk _ _ H1 vs ds P Q (A.env.grow s1).trk r1.up m1 fun d v H' p hn s3 r3 => q d v H' p (s1.free hn) (s1.trans s3) r3
theorem df_callB (hc : CallR X (.builtin id) r) (lk : LinkF X.K r f) (hg : Gl X x) (hm : X.mg x = none) (hv : bootBuiltins x = some (.builtin id)) (ha : DA X W (e :: es) ba la) (hn : x ≠ "__name__" := by decide) (hdb : (x == ("__debug__" : Str)) = false := by decide)
    (he : starEach (e :: es) X.env = (false, eval e X.env) :: starEach es X.env := by rfl) (hpl : (backTo pos (starEach es X.env)).any (·.1) = false := by rfl) : DF X W (.Call (.Name x p) (e :: es) [] pos) (mB f la) :=
  PE.imp (pe_callB hc hg hm hv ha hn hdb he hpl) fun _ _ _ h => link_f lk h
theorem df_callT (hc : CallR X (.type T) r) (lk : LinkF X.K r f) (hg : Gl X x) (hm : X.mg x = none) (hv : bootBuiltins x = some (.type T)) (ha : DA X W (e :: es) ba la) (hn : x ≠ "__name__" := by decide) (hdb : (x == ("__debug__" : Str)) = false := by decide)
    (he : starEach (e :: es) X.env = (false, eval e X.env) :: starEach es X.env := by rfl) (hpl : (backTo pos (starEach es X.env)).any (·.1) = false := by rfl) : DF X W (.Call (.Name x p) (e :: es) [] pos) (mB f la) :=
  PE.imp (pe_callTy hc hg hm hv ha hn hdb he hpl) fun _ _ _ h => link_f lk h
end
end DL
set_option Elab.async false
set_option linter.all false
set_option maxRecDepth 100000
set_option maxHeartbeats 4000000
/-! DL3: names set, cells of one's own, statements, loops. -/
namespace DL
open PySem PySem.Spec PyProof.Rows L2
variable [TabsC]
theorem sub_congr {H : Hp} {ls ls' : List Addr} (h : ∀ a, a ∈ ls ↔ a ∈ ls') : sub H ls = sub H ls' := by
  funext a
  unfold sub
  by_cases e : a ∈ ls
  · rw [if_pos e, if_pos ((h a).mp e)]
  · rw [if_neg e, if_neg fun z => e ((h a).mpr z)]
theorem mem_swap {ls own : List Addr} {p : Addr} (a : Addr) : a ∈ p :: (ls ++ own) ↔ a ∈ ls ++ (p :: own) := by
  simp only [List.mem_cons, List.mem_append]
  constructor
  · rintro (h | h | h)
    · exact .inr (.inl h)
    · exact .inl h
    · exact .inr (.inr h)
  · rintro (h | h | h)
    · exact .inr (.inl h)
    · exact .inl h
    · exact .inr (.inr h)
theorem set_get {α : Type} {l : List α} {i j : Nat} {x y : α} (h : (l.set i x)[j]? = some y) : (j = i ∧ i < l.length ∧ y = x) ∨ (j ≠ i ∧ l[j]? = some y) := by
  by_cases e : j = i
  · subst e
    by_cases hl : j < l.length
    · rw [List.getElem?_set_self hl] at h
      cases h
      exact .inl ⟨rfl, hl, rfl⟩
    · rw [List.set_eq_of_length_le (Nat.le_of_not_lt hl)] at h
      exact absurd (List.getElem?_eq_some_iff.mp h).1 hl
  · rw [List.getElem?_set_ne (Ne.symm e)] at h
    exact .inr ⟨e, h⟩
theorem TabS.less {H : Hp} {a P : Addr} {q : Str} {o : HO} (h : H a = some o) (n : Plain o) (t : LamX.TabS H P q) : LamX.TabS (sub H [a]) P q := by
  obtain ⟨ps, h1, h2, h3⟩ := t
  have nP : P ∉ [a] := fun z => by
    rw [List.mem_singleton.mp z, h] at h1
    cases h1
    cases n.1
  refine ⟨ps, by rw [sub_out nP]; exact h1, h2, fun pos cv hc => ?_⟩
  obtain ⟨c, e1, e2⟩ := h3 pos cv hc
  refine ⟨c, e1, ?_⟩
  rw [sub_out fun z => ?_]
  · exact e2
  · rw [List.mem_singleton.mp z, h] at e2
    exact n.2.1 _ _ (Option.some.inj e2)
/-- one cell is another one -/
theorem same_put {H : Hp} {a : Addr} {o : HO} : Same (sub H [a]) (upd H a o) := by
  have key : ∀ b u, sub H [a] b = some u → upd H a o b = some u := fun b u h => by
    by_cases e : b = a
    · rw [sub_in (by simp [e])] at h; cases h
    · rw [sub_out (by simpa using e)] at h
      rw [upd_ne e]; exact h
  exact Same.of key
theorem Same.but {H0 H H' : Hp} {a : Addr} {o : HO} (e : Same H0 H) (h0 : H0 a = none) (h : H a = some o) (n : Plain o) (s : Same (sub H [a]) H') : Same H0 H' := by
  refine ⟨⟨fun b u q hb => s.ob.get b u ?_ hb⟩, fun t => s.tb fun p hp => TabS.less h n (e.tb t p hp), fun b z => ?_⟩
  · rw [sub_out (by simpa using ne_of_none q h0)]
    exact e.ob.get b u q hb
  · have := s.ne b z
    by_cases hb : b = a
    · rw [hb]; exact h0
    · rw [sub_out (by simpa using hb)] at this
      exact e.ne b this
theorem Same.butSub {H H' : Hp} {a : Addr} {ls : List Addr} (ha : a ∈ ls) (s : Same (sub H [a]) H') : Grow (sub H ls) (sub H' ls) := ⟨fun b u q hb => by
  by_cases hl : b ∈ ls
  · rw [sub_in hl] at q; cases q
  · rw [sub_out hl] at q ⊢
    refine s.ob.get b u ?_ hb
    rw [sub_out (fun z => hl (by rw [List.mem_singleton.mp z]; exact ha))]
    exact q⟩
theorem Same.butAt {H H' : Hp} {a b : Addr} {u : HO} (s : Same (sub H [a]) H') (hb : b ≠ a) (h : H b = some u) (n : isTbl u = false := by rfl) : H' b = some u := s.ob.get b u (by rw [sub_out (by simpa using hb)]; exact h) n
theorem RV.grow {K : PySem.W.Frag} {fo ls ls' : List Addr} {H H' : Hp} {a : Addr} {d : D} (g : Grow (sub H ls) (sub H' ls')) (k : ∀ u, H a = some u → isTbl u = false → H' a = some u) (r : RV K fo ls H true (.ref a) d) : RV K fo ls' H' true (.ref a) d := by
  cases r with
  | cl r => exact .cl (r.mono g)
  | ml n p q r => exact .ml n (k _ p rfl) q (r.mono g)
  | md n p q r => exact .md n (k _ p rfl) q (r.mono g)
  | mt n p q r => exact .mt n (k _ p rfl) q (r.mono g)
  | mo n c p r => exact .mo n c (k _ p rfl) (r.mono g)
section
variable {K : PySem.W.Frag} {F : Fm} {own : List Addr} {σ : L2.St} {δ : List DV} {H H' : Hp}
theorem EnvD.lent_set (E : EnvD K F own σ δ H) {i : Nat} {x : DV} {σ' : L2.St} (hx : ∀ d, x ≠ .s d) (hσ : ∀ j, j ≠ i → σ'[j]? = σ[j]?) (j : Nat) (d : D) (a : Addr) (h : (δ.set i x)[j]? = some (.s d)) (h2 : σ'[j]? = some (some (.ref a))) : F.H0 a = none := by
  rcases set_get h with ⟨_, _, z⟩ | ⟨ne, h⟩
  · exact absurd z.symm (hx d)
  · rw [hσ j ne] at h2; exact E.lent j d a h h2
theorem EnvD.alone_set (E : EnvD K F own σ δ H) {i : Nat} {x : DV} {σ' : L2.St} (hx : ∀ d, x ≠ .s d) (hσ : ∀ j, j ≠ i → σ'[j]? = σ[j]?) (j k : Nat) (dj dk : D) (a : Addr) (h1 : (δ.set i x)[j]? = some (.s dj)) (h2 : (δ.set i x)[k]? = some (.s dk)) (h3 : σ'[j]? = some (some (.ref a))) (h4 : σ'[k]? = some (some (.ref a))) : j = k := by
  rcases set_get h1 with ⟨_, _, z⟩ | ⟨n1, h1⟩
  · exact absurd z.symm (hx dj)
  rcases set_get h2 with ⟨_, _, z⟩ | ⟨n2, h2⟩
  · exact absurd z.symm (hx dk)
  rw [hσ j n1] at h3
  rw [hσ k n2] at h4
  exact E.alone j k dj dk a h1 h2 h3 h4
theorem set_off {i : Nat} {x : Option V} (j : Nat) (h : j ≠ i) : (σ.set i x)[j]? = σ[j]? := List.getElem?_set_ne (Ne.symm h)
theorem EnvD.set (E : EnvD K F own σ δ H) (i : Nat) {v : V} {d : D} (r : Rep K (sub H (F.ls0 ++ own)) v d) : EnvD K F own (σ.set i (some v)) (δ.set i (.v d)) H := by
  refine ⟨E.same, E.imm, E.tabs, E.new, E.trk, E.sep, by rw [List.length_set, List.length_set]; exact E.len, fun j dv h => ?_, E.lent_set (fun d z => by cases z) set_off, E.alone_set (fun d z => by cases z) set_off, fun j k dj dk a h1 h2 h3 h4 => ?_⟩
  · rcases set_get h with ⟨rfl, hl, rfl⟩ | ⟨ne, h⟩
    · exact ⟨some v, List.getElem?_set_self (by rw [E.len]; exact hl), v, rfl, r⟩
    · obtain ⟨s, e, q⟩ := E.slot j dv h
      exact ⟨s, by rw [List.getElem?_set_ne (Ne.symm ne)]; exact e, q⟩
  · rcases set_get h1 with ⟨_, _, z⟩ | ⟨n1, h1⟩
    · cases z
    rcases set_get h2 with ⟨_, _, z⟩ | ⟨n2, h2⟩
    · cases z
    rw [List.getElem?_set_ne (Ne.symm n1)] at h3
    rw [List.getElem?_set_ne (Ne.symm n2)] at h4
    exact E.apart j k dj dk a h1 h2 h3 h4
theorem EnvD.unset (E : EnvD K F own σ δ H) (i : Nat) (s : Option V) : EnvD K F own (σ.set i s) (δ.set i .u) H := by
  refine ⟨E.same, E.imm, E.tabs, E.new, E.trk, E.sep, by rw [List.length_set, List.length_set]; exact E.len, fun j dv h => ?_, E.lent_set (fun d z => by cases z) set_off, E.alone_set (fun d z => by cases z) set_off, fun j k dj dk a h1 h2 h3 h4 => ?_⟩
  · rcases set_get h with ⟨rfl, hl, rfl⟩ | ⟨ne, h⟩
    · exact ⟨s, List.getElem?_set_self (by rw [E.len]; exact hl), trivial⟩
    · obtain ⟨s, e, q⟩ := E.slot j dv h
      exact ⟨s, by rw [List.getElem?_set_ne (Ne.symm ne)]; exact e, q⟩
  · rcases set_get h1 with ⟨_, _, z⟩ | ⟨n1, h1⟩
    · cases z
    rcases set_get h2 with ⟨_, _, z⟩ | ⟨n2, h2⟩
    · cases z
    rw [List.getElem?_set_ne (Ne.symm n1)] at h3
    rw [List.getElem?_set_ne (Ne.symm n2)] at h4
    exact E.apart j k dj dk a h1 h2 h3 h4
/-- a new cell is ours -/
theorem EnvD.grab (E : EnvD K F own σ δ H) {p : Addr} (hp : H p = none) (e : Same H H') (hn : ∃ o, H' p = some o ∧ Plain o) : EnvD K F (p :: own) σ δ H' := by
  have sf : Grow (sub H (F.ls0 ++ own)) (sub H' (F.ls0 ++ (p :: own))) := by
    rw [← sub_congr (H := H') (mem_swap (ls := F.ls0) (own := own) (p := p))]
    exact sub_fresh hp e
  have E' := E.grow e
  refine ⟨E'.same, E.imm.trans sf, E'.tabs, fun l h => ?_, fun l h => ?_, fun l h => ?_, E.len, fun j dv h => ?_, E.lent, E.alone, E.apart⟩
  · rcases List.mem_cons.mp h with rfl | h
    · exact E.same.free hp
    · exact E.new l h
  · rcases List.mem_cons.mp ((mem_swap l).mpr h) with rfl | h
    · exact hn
    · exact E'.trk l h
  · rcases List.mem_cons.mp h with rfl | h
    · intro z
      obtain ⟨o, q, nn⟩ := E.trk l (List.mem_append_left _ z)
      rw [hp] at q; cases q
    · exact E.sep l h
  · obtain ⟨s, e1, q⟩ := E.slot j dv h
    refine ⟨s, e1, ?_⟩
    cases dv with
    | u => trivial
    | v d => obtain ⟨x, e2, r⟩ := q; exact ⟨x, e2, r.mono sf⟩
    | m d =>
      obtain ⟨a, e2, ha, r⟩ := q
      exact ⟨a, e2, List.mem_cons_of_mem _ ha, r.grow sf fun u h n => e.ob.get _ u h n⟩
    | s d => obtain ⟨a, C, dx, n, fs, ds, e1, h1, h2, h3, h4, r⟩ := q; exact ⟨a, C, dx, n, fs, ds, e1, h1, h2, h3, e _ _ h4, r.mono sf⟩
theorem EnvD.setm (E : EnvD K F own σ δ H) (i : Nat) {p : Addr} {d : D} (hp : H p = none) (e : Same H H') (r : FV K (p :: (F.ls0 ++ own)) H' p d) : EnvD K F (p :: own) (σ.set i (some (.ref p))) (δ.set i (.m d)) H' := by
  have hn : ∃ o, H' p = some o ∧ Plain o := by
    cases r with
    | l h _ _ => exact ⟨_, h, plain_of⟩
    | d h _ _ => exact ⟨_, h, plain_of⟩
    | t h _ _ => exact ⟨_, h, plain_of⟩
    | o _ h _ => exact ⟨_, h, plain_of⟩
  have G := E.grab hp e hn
  have np : ∀ (j : Nat) (dj : D), δ[j]? = some (.m dj) → σ[j]? ≠ some (some (.ref p)) := fun j dj h z => by
    obtain ⟨s, e1, a, e2, ha, _⟩ := E.slot j _ h
    rw [e1] at z; cases z
    cases e2
    obtain ⟨o, q, nn⟩ := E.trk p (List.mem_append_right _ ha)
    rw [hp] at q; cases q
  refine ⟨G.same, G.imm, G.tabs, G.new, G.trk, G.sep, by rw [List.length_set, List.length_set]; exact G.len, fun j dv h => ?_, G.lent_set (fun d z => by cases z) set_off, G.alone_set (fun d z => by cases z) set_off, fun j k dj dk a h1 h2 h3 h4 => ?_⟩
  · rcases set_get h with ⟨rfl, hl, rfl⟩ | ⟨ne, h⟩
    · refine ⟨some (.ref p), List.getElem?_set_self (by rw [G.len]; exact hl), p, rfl, List.mem_cons_self, ?_⟩
      have out : p ∉ F.ls0 := fun z => by
        obtain ⟨o, q, nn⟩ := E.trk p (List.mem_append_left _ z)
        rw [hp] at q; cases q
      cases r with
      | l q1 q2 q3 => exact .ml out q1 q2 (by rw [← sub_congr mem_swap]; exact q3)
      | d q1 q2 q3 => exact .md out q1 q2 (by rw [← sub_congr mem_swap]; exact q3)
      | t q1 q2 q3 => exact .mt out q1 q2 (by rw [← sub_congr mem_swap]; exact q3)
      | o q1 q2 q3 => exact .mo out q1 q2 (by rw [← sub_congr mem_swap]; exact q3)
    · obtain ⟨s, e, q⟩ := G.slot j dv h
      exact ⟨s, by rw [List.getElem?_set_ne (Ne.symm ne)]; exact e, q⟩
  · rcases set_get h1 with ⟨a1, l1, _⟩ | ⟨n1, g1⟩
    · subst a1
      rw [List.getElem?_set_self (by rw [G.len]; exact l1)] at h3
      cases h3
      rcases set_get h2 with ⟨a2, _, _⟩ | ⟨n2, g2⟩
      · exact a2.symm
      · rw [List.getElem?_set_ne (Ne.symm n2)] at h4
        exact absurd h4 (np k dk g2)
    · rw [List.getElem?_set_ne (Ne.symm n1)] at h3
      rcases set_get h2 with ⟨a2, l2, _⟩ | ⟨n2, g2⟩
      · subst a2
        rw [List.getElem?_set_self (by rw [G.len]; exact l2)] at h4
        cases h4
        exact absurd h3 (np j dj g1)
      · rw [List.getElem?_set_ne (Ne.symm n2)] at h4
        exact E.apart j k dj dk a g1 g2 h3 h4
/-- a cell of ours is turned: all else stays -/
theorem EnvD.turn (E : EnvD K F own σ δ H) {i : Nat} {a : Addr} {d d' : D} {o o' : HO} (h : δ[i]? = some (.m d)) (hs : σ[i]? = some (some (.ref a))) (ho : H a = some o) (hp : Plain o) (s : Same (sub H [a]) H') (ho' : H' a = some o') (r : RV K F.ls0 (F.ls0 ++ own) H' true (.ref a) d') (hp' : Plain o' := by exact plain_of) : EnvD K F own σ (δ.set i (.m d')) H' := by
  obtain ⟨s0, e1, a', e2, ha, _⟩ := E.slot i _ h
  rw [e1] at hs; cases hs
  cases e2
  have hin : a ∈ F.ls0 ++ own := List.mem_append_right _ ha
  have g : Grow (sub H (F.ls0 ++ own)) (sub H' (F.ls0 ++ own)) := s.butSub hin
  refine ⟨E.same.but (E.new a ha) ho hp s, E.imm.trans g, s.tb fun p hq => TabS.less ho hp (E.tabs p hq), E.new, fun l hl => ?_, E.sep, by rw [List.length_set]; exact E.len, fun j dv hj => ?_, E.lent_set (fun d z => by cases z) (fun _ _ => rfl), E.alone_set (fun d z => by cases z) (fun _ _ => rfl), fun j k dj dk b h1 h2 h3 h4 => ?_⟩
  · by_cases z : l = a
    · exact ⟨o', by rw [z]; exact ho', hp'⟩
    · obtain ⟨u, q, nn⟩ := E.trk l hl
      exact ⟨u, s.ob.get l u (by rw [sub_out (by simpa using z)]; exact q) nn.1, nn⟩
  · rcases set_get hj with ⟨rfl, _, rfl⟩ | ⟨ne, hj⟩
    · exact ⟨_, e1, a, rfl, ha, r⟩
    · obtain ⟨s1, q1, q⟩ := E.slot j dv hj
      refine ⟨s1, q1, ?_⟩
      cases dv with
      | u => trivial
      | v d => obtain ⟨x, q2, r2⟩ := q; exact ⟨x, q2, r2.mono g⟩
      | m d2 =>
        obtain ⟨c, q2, hc, r2⟩ := q
        subst q2
        have nca : c ≠ a := fun z => ne (E.apart j i d2 d a hj h (by rw [q1, z]) e1)
        exact ⟨c, rfl, hc, r2.grow g fun u hu n => s.butAt nca hu n⟩
      | s d2 =>
        obtain ⟨b, C, dx, n, fs, ds, q2, h1, h2, h3, h4, r⟩ := q
        have nba : b ≠ a := fun z => E.sep a ha (by rw [← z]; exact h1)
        exact ⟨b, C, dx, n, fs, ds, q2, h1, h2, h3, s.butAt nba h4, r.mono g⟩
  · have back : ∀ (j : Nat) (dj : D), (δ.set i (.m d'))[j]? = some (.m dj) → ∃ dj', δ[j]? = some (.m dj') := fun j dj q => by
      rcases set_get q with ⟨rfl, _, _⟩ | ⟨_, q⟩
      · exact ⟨d, h⟩
      · exact ⟨dj, q⟩
    obtain ⟨x1, y1⟩ := back j dj h1
    obtain ⟨x2, y2⟩ := back k dk h2
    exact E.apart j k x1 x2 b y1 y2 h3 h4
/-- a cell of ours is written -/
theorem EnvD.put (E : EnvD K F own σ δ H) {i : Nat} {a : Addr} {d d' : D} {o o' : HO} (h : δ[i]? = some (.m d)) (hs : σ[i]? = some (some (.ref a))) (ho : H a = some o') (r : RV K F.ls0 (F.ls0 ++ own) (upd H a o) true (.ref a) d') (hp : Plain o' := by exact plain_of) (hp2 : Plain o := by exact plain_of) : EnvD K F own σ (δ.set i (.m d')) (upd H a o) :=
  E.turn h hs ho hp same_put upd_same r hp2
/-- a cell of ours is done: plain data from now on; a dict is locked -/
theorem EnvD.fin (E : EnvD K F own σ δ H) {i : Nat} {a : Addr} {d : D} {o : HO} (h : δ[i]? = some (.m d)) (hs : σ[i]? = some (some (.ref a))) (ho : H a = some o) (hp : Plain o) (s : Same (sub H [a]) H') (r : ∀ ls, a ∉ ls → Grow (sub H (F.ls0 ++ own)) (sub H' ls) → Rep K (sub H' ls) (.ref a) d) (hn : ∃ u, H' a = some u ∧ Plain u) :
    ∃ own', EnvD K F own' σ (δ.set i (.v d)) H' := by
  obtain ⟨s0, e1, a', e2, ha, _⟩ := E.slot i _ h
  rw [e1] at hs; cases hs
  cases e2
  have hin : a ∈ F.ls0 ++ own := List.mem_append_right _ ha
  refine ⟨own.filter fun b => decide (b ≠ a), ?_⟩
  have sub' : ∀ b, b ∈ F.ls0 ++ own.filter (fun b => decide (b ≠ a)) → b ∈ F.ls0 ++ own := fun b hb => by
    rcases List.mem_append.mp hb with z | z
    · exact List.mem_append_left _ z
    · exact List.mem_append_right _ (List.mem_filter.mp z).1
  have le : Grow (sub H (F.ls0 ++ own)) (sub H' (F.ls0 ++ own.filter fun b => decide (b ≠ a))) := (s.butSub hin).trans (sub_less sub')
  have out : a ∉ F.ls0 ++ own.filter (fun b => decide (b ≠ a)) := fun z => by
    rcases List.mem_append.mp z with z | z
    · exact E.sep a ha z
    · have := (List.mem_filter.mp z).2
      simp at this
  refine ⟨E.same.but (E.new a ha) ho hp s, E.imm.trans le, s.tb fun p hq => TabS.less ho hp (E.tabs p hq), fun l hl => E.new l (List.mem_filter.mp hl).1, fun l hl => ?_, fun l hl => E.sep l (List.mem_filter.mp hl).1, by rw [List.length_set]; exact E.len, fun j dv hj => ?_, E.lent_set (fun d z => by cases z) (fun _ _ => rfl), E.alone_set (fun d z => by cases z) (fun _ _ => rfl), fun j k dj dk b h1 h2 h3 h4 => ?_⟩
  · by_cases z : l = a
    · obtain ⟨u, e, n⟩ := hn
      exact ⟨u, by rw [z]; exact e, n⟩
    · obtain ⟨u, q, nn⟩ := E.trk l (sub' l hl)
      exact ⟨u, s.ob.get l u (by rw [sub_out (by simpa using z)]; exact q) nn.1, nn⟩
  · rcases set_get hj with ⟨rfl, _, rfl⟩ | ⟨ne, hj⟩
    · exact ⟨_, e1, _, rfl, r _ out le⟩
    · obtain ⟨s1, q1, q⟩ := E.slot j dv hj
      refine ⟨s1, q1, ?_⟩
      cases dv with
      | u => trivial
      | v d => obtain ⟨x, q2, r2⟩ := q; exact ⟨x, q2, r2.mono le⟩
      | m d2 =>
        obtain ⟨c, q2, hc, r2⟩ := q
        subst q2
        have nca : c ≠ a := fun z => ne (E.apart j i d2 d a hj h (by rw [q1, z]) e1)
        exact ⟨c, rfl, List.mem_filter.mpr ⟨hc, by simpa using nca⟩, r2.grow le fun u hu n => s.butAt nca hu n⟩
      | s d2 =>
        obtain ⟨b, C, dx, n, fs, ds, q2, h1, h2, h3, h4, r⟩ := q
        have nba : b ≠ a := fun z => E.sep a ha (by rw [← z]; exact h1)
        exact ⟨b, C, dx, n, fs, ds, q2, h1, h2, h3, s.butAt nba h4, r.mono le⟩
  · rcases set_get h1 with ⟨_, _, z⟩ | ⟨n1, h1⟩
    · cases z
    rcases set_get h2 with ⟨_, _, z⟩ | ⟨n2, h2⟩
    · cases z
    exact E.apart j k dj dk b h1 h2 h3 h4
theorem same_less {a : Addr} : Same (sub H [a]) H := Same.of fun b u q => by
  by_cases hb : b ∈ [a]
  · rw [sub_in hb] at q; cases q
  · rw [sub_out hb] at q; exact q
theorem EnvD.frz (E : EnvD K F own σ δ H) {i : Nat} {d : D} (h : δ[i]? = some (.m d)) (hd : isDic d = false) : ∃ own', EnvD K F own' σ (δ.set i (.v d)) H := by
  obtain ⟨s, e1, a, e2, ha, r⟩ := E.slot i _ h
  subst e2
  obtain ⟨u, hu, nn⟩ := E.trk a (List.mem_append_right _ ha)
  cases r with
  | cl r =>
    -- nothing stands in the cell that is told: it is a name's value as it is
    refine ⟨own, E.same, E.imm, E.tabs, E.new, E.trk, E.sep, by rw [List.length_set]; exact E.len, fun j dv hj => ?_, E.lent_set (fun d z => by cases z) (fun _ _ => rfl), E.alone_set (fun d z => by cases z) (fun _ _ => rfl), fun j k dj dk b h1 h2 h3 h4 => ?_⟩
    · rcases set_get hj with ⟨rfl, _, rfl⟩ | ⟨ne, hj⟩
      · exact ⟨_, e1, _, rfl, r⟩
      · exact E.slot j dv hj
    · rcases set_get h1 with ⟨_, _, z⟩ | ⟨n1, h1⟩
      · cases z
      rcases set_get h2 with ⟨_, _, z⟩ | ⟨n2, h2⟩
      · cases z
      exact E.apart j k dj dk b h1 h2 h3 h4
  | ml p0 p1 p2 p3 => exact E.fin h e1 p1 plain_of same_less (fun ls hl g => .list (by rw [sub_out hl]; exact p1) p2 (p3.mono g)) ⟨_, p1, plain_of⟩
  | md p0 p1 p2 p3 => cases hd
  | mt p0 p1 p2 p3 => cases hd
  | mo p0 p1 p2 p3 => exact E.fin h e1 p2 plain_of same_less (fun ls hl g => .obj p1 (by rw [sub_out hl]; exact p2) (p3.mono g)) ⟨_, p2, plain_of⟩
theorem EnvD.dic (E : EnvD K F own σ δ H) {i : Nat} {ds : List (Key × D)} (h : δ[i]? = some (.m (.dict ds))) : ∃ a kvs, σ[i]? = some (some (.ref a)) ∧ a ∈ own ∧ H a = some (.dK kvs) ∧ kvs.length ≤ sizeLine ∧ RepKs K (sub H (F.ls0 ++ own)) kvs ds := by
  obtain ⟨s, e1, a, rfl, ha, r⟩ := E.slot i _ h
  cases r with
  | cl r =>
    cases r with
    | dict h1 _ _ =>
      rw [sub_in (List.mem_append_right _ ha)] at h1; cases h1
  | md n h1 h2 h3 => exact ⟨a, _, e1, ha, h1, h2, h3⟩
theorem EnvD.lockd (E : EnvD K F own σ δ H) {i : Nat} {ds : List (Key × D)} {a : Addr} {kvs : List (Key × V)} (h : δ[i]? = some (.m (.dict ds))) (e1 : σ[i]? = some (some (.ref a))) (ha : H a = some (.dK kvs)) (hz : kvs.length ≤ sizeLine) (hk : RepKs K (sub H (F.ls0 ++ own)) kvs ds) (od : Obj) :
    ∃ own', EnvD K F own' σ (δ.set i (.v (.dict ds))) (upd H a (.frz od (.dK kvs))) :=
  E.fin h e1 ha plain_of same_put (fun ls hl g => .dict (by rw [sub_out hl]; exact upd_same) hz (hk.mono g)) ⟨_, upd_same, plain_of⟩
theorem EnvD.dicT (E : EnvD K F own σ δ H) {i : Nat} {ds : List (List Key × D)} (h : δ[i]? = some (.m (.tdict ds))) : ∃ a kvs, σ[i]? = some (some (.ref a)) ∧ a ∈ own ∧ H a = some (.dT kvs) ∧ kvs.length ≤ sizeLine ∧ RepTs K (sub H (F.ls0 ++ own)) kvs ds := by
  obtain ⟨s, e1, a, rfl, ha, r⟩ := E.slot i _ h
  cases r with
  | cl r =>
    cases r with
    | tdict h1 _ _ _ =>
      rw [sub_in (List.mem_append_right _ ha)] at h1; cases h1
  | mt n h1 h2 h3 => exact ⟨a, _, e1, ha, h1, h2, h3⟩
theorem EnvD.lockdT (E : EnvD K F own σ δ H) {i : Nat} {ds : List (List Key × D)} {a : Addr} {kvs : List (List Key × V)} (h : δ[i]? = some (.m (.tdict ds))) (e1 : σ[i]? = some (some (.ref a))) (ha : H a = some (.dT kvs)) (hz : kvs.length ≤ sizeLine) (hk : RepTs K (sub H (F.ls0 ++ own)) kvs ds) (od : Obj) :
    ∃ own', EnvD K F own' σ (δ.set i (.v (.tdict ds))) (upd H a (.frz od (.dT kvs))) :=
  E.fin h e1 ha plain_of same_put (fun ls hl g => .tdict (by rw [sub_out hl]; exact upd_same) hz hk.1 (Reps.mono g hk.2)) ⟨_, upd_same, plain_of⟩
/-- another floor -/
theorem EnvD.floor (E : EnvD K F own σ δ H) : EnvD K { F with Hi := sub H (F.ls0 ++ own) } own σ δ H := ⟨E.same, Grow.refl _, E.tabs, E.new, E.trk, E.sep, E.len, E.slot, E.lent, E.alone, E.apart⟩
theorem EnvD.unfloor {Hi : Hp} (E : EnvD K { F with Hi := Hi } own σ δ H) (h : Grow F.Hi Hi) : EnvD K F own σ δ H := ⟨E.same, h.trans E.imm, E.tabs, E.new, E.trk, E.sep, E.len, E.slot, E.lent, E.alone, E.apart⟩
end
/-! ### statements -/
structure KD where
  nx : List DV → Prop
  rt : List DV → D → Prop
  bk : List DV → Prop
  ct : List DV → Prop
  er : List DV → Er → Prop
abbrev SM := List DV → KD → Prop
structure LinkS (K : PySem.W.Frag) (W : WX) (F : Fm) (k : KD) (D : Ends) : Prop where
  nx : ∀ σ H own δ, EnvD K F own σ δ H → k.nx δ → D.nx σ H
  rt : ∀ v σ H own δ d, EnvD K F own σ δ H → Rep K (sub H F.ls0) v d → k.rt δ d → D.rt v H
  bk : ∀ σ H own δ, EnvD K F own σ δ H → k.bk δ → D.bk σ H
  ct : ∀ σ H own δ, EnvD K F own σ δ H → k.ct δ → D.ct σ H
  er : ∀ er cls dd σ H own δ, EnvD K F own σ δ H → k.er δ er → RepEr K (F.ls0 ++ own) H cls dd er → W cls dd σ H
def ts (K : PySem.W.Frag) (W : WX) (m : SM) : TS := fun D σ H => ∃ (F : Fm) (own : List Addr) (δ : List DV) (k : KD), EnvD K F own σ δ H ∧ m δ k ∧ LinkS K W F k D
def DS (X : Cx) (W : WX) (st : Stmt) (m : SM) : Prop := PS X st (ts X.K W m)
def DSs (X : Cx) (W : WX) (sts : List Stmt) (m : SM) : Prop := PSs X sts (ts X.K W m)
theorem LinkS.at {K : PySem.W.Frag} {W : WX} {F : Fm} {k : KD} {D : Ends} {σ : L2.St} {H : Hp} {own : List Addr} {δ : List DV} (L : LinkS K W F k D) (E : EnvD K F own σ δ H) : At K W σ H F own δ (k.er δ) :=
  ⟨E, fun er cls dd H' p s r => L.er er cls dd σ H' own δ (E.grow s) p r⟩
section
variable {X : Cx} {W : WX} {a b c e o : Expr} {es rest : List Expr} {st : Stmt} {sts sts' : List Stmt} {ba bb bc : Bool} {ma mb mc : TM} {na nb : BM} {la : LM} {pos : Pos} {m m' : SM}
def sNext : SM := fun δ k => k.nx δ
def sSeq (m m' : SM) : SM := fun δ k => m δ { k with nx := fun δ' => m' δ' k }
theorem dss_nil : DSs X W [] sNext := PSs.imp pss_nil fun D σ H ⟨F, own, δ, k, E, h, L⟩ => L.nx σ H own δ E h
theorem dss_one (h : DS X W st m) : DSs X W [st] m := pss_one h
theorem dss_cons (h : DS X W st m) (h2 : DSs X W sts m') : DSs X W (st :: sts) (sSeq m m') :=
  PSs.imp (pss_cons h h2) fun D σ H ⟨F, own, δ, k, E, h, L⟩ => ⟨F, own, δ, _, E, h, ⟨fun σ' H' own' δ' E' h' => ⟨F, own', δ', k, E', h', L⟩, L.rt, L.bk, L.ct, L.er⟩⟩
/-- a cell of ours is done -/
def frzD (i : Nat) (δ : List DV) : List DV := match δ[i]? with
  | some (.m d) => δ.set i (.v d)
  | _ => δ
def sFrz (i : Nat) (m : SM) : SM := fun δ k => m (frzD i δ) k
theorem dss_frz (i : Nat) (h : DSs X W sts m) : DSs X W sts (sFrz i m) := by
  refine ⟨fun pins s σ H D I ⟨F, own, δ, k, E, q, L⟩ => ?_⟩
  unfold sFrz frzD at q
  split at q
  · rename_i d e
    cases hd : isDic d with
    | false =>
      obtain ⟨own', E'⟩ := E.frz e hd
      exact h.run pins s σ H D I ⟨F, own', _, k, E', q, L⟩
    | true =>
      cases d with
      | dict ds =>
        obtain ⟨a, kvs, e1, ha, h1, h2, h3⟩ := E.dic e
        obtain ⟨od, I2⟩ := Inv.locked I h1
        obtain ⟨own', E'⟩ := E.lockd e e1 h1 h2 h3 od
        exact h.run pins s σ _ D I2 ⟨F, own', _, k, E', q, L⟩
      | tdict ds =>
        obtain ⟨a, kvs, e1, ha, h1, h2, h3⟩ := E.dicT e
        obtain ⟨od, I2⟩ := Inv.lockedT I h1
        obtain ⟨own', E'⟩ := E.lockdT e e1 h1 h2 h3 od
        exact h.run pins s σ _ D I2 ⟨F, own', _, k, E', q, L⟩
      | _ => cases hd
  · exact h.run pins s σ H D I ⟨F, own, δ, k, E, q, L⟩
def sFalse : SM := fun _ _ => False
def sBreak : SM := fun δ k => k.bk δ
def sCont : SM := fun δ k => k.ct δ
def sExpr (ma : TM) : SM := fun δ k => ma δ (fun _ => k.nx δ) (k.er δ)
def sRet (ma : TM) : SM := fun δ k => ma δ (k.rt δ) (k.er δ)
theorem RV.out {K : PySem.W.Frag} {F : Fm} {own : List Addr} {H' : Hp} {b : Bool} {v : V} {d : D} (hd : b = false ∨ isDic d = false) (r : RV K F.ls0 (F.ls0 ++ own) H' b v d) : Rep K (sub H' F.ls0) v d := by
  have le : Grow (sub H' (F.ls0 ++ own)) (sub H' F.ls0) := sub_less fun a h => List.mem_append_left _ h
  cases r with
  | cl r => exact r.mono le
  | ml n h l r => exact .list (by rw [sub_out n]; exact h) l (r.mono le)
  | md n h l r => rcases hd with z | z <;> cases z
  | mt n h l r => rcases hd with z | z <;> cases z
  | mo n c h r => exact .obj c (by rw [sub_out n]; exact h) (r.mono le)
theorem ds_ret (h : DE X W e false ma) : DS X W (.Return (some e) pos) (sRet ma) :=
  PS.imp (ps_ret h) fun D σ H ⟨F, own, δ, k, E, h, L⟩ => ⟨F, own, δ, _, _, L.at E, h, fun d v H' p s r => L.rt v σ H' own δ d (E.grow s) (r.out (.inl rfl)) p⟩
def sRetN : SM := fun δ k => k.rt δ .none
def sIf (na : BM) (m m' : SM) : SM := fun δ k => na δ (fun c => if c = true then m δ k else m' δ k) (k.er δ)
theorem ds_if (hc : DT X W c na) (ha : DSs X W sts m) (hb : DSs X W sts' m') : DS X W (.If c sts sts' pos) (sIf na m m') :=
  PS.imp (ps_if hc ha hb) fun D σ H ⟨F, own, δ, k, E, h, L⟩ => ⟨F, own, δ, _, _, L.at E, h, fun c H' p s => by
    cases c with
    | true => exact iteT ⟨F, own, δ, k, E.grow s, (by simpa using p), L⟩
    | false => exact iteF ⟨F, own, δ, k, E.grow s, (by simpa using p), L⟩⟩
/-! ### targets -/
abbrev GM := D → List DV → (List DV → Prop) → Prop
abbrev GMs := List D → List DV → (List DV → Prop) → Prop
def tgm (K : PySem.W.Frag) (g : GM) : TG := fun v σ H Q => ∃ (F : Fm) (own : List Addr) (δ : List DV) (d : D) (P : List DV → Prop), EnvD K F own σ δ H ∧ Rep K (sub H (F.ls0 ++ own)) v d ∧ g d δ P ∧ ∀ σ' δ', EnvD K F own σ' δ' H → P δ' → Q σ' H
def tgms (K : PySem.W.Frag) (g : GMs) : TGs := fun vs σ H Q => ∃ (F : Fm) (own : List Addr) (δ : List DV) (ds : List D) (P : List DV → Prop), EnvD K F own σ δ H ∧ Reps K (sub H (F.ls0 ++ own)) vs ds ∧ g ds δ P ∧ ∀ σ' δ', EnvD K F own σ' δ' H → P δ' → Q σ' H
def DG (X : Cx) (e : Expr) (g : GM) : Prop := PG X e (tgm X.K g)
def DGs (X : Cx) (es : List Expr) (g : GMs) : Prop := PGs X es (tgms X.K g)
theorem PG.imp {X : Cx} {e : Expr} {t t' : TG} (h : PG X e t) (k : ∀ v σ H Q, t' v σ H Q → t v σ H Q) : PG X e t' := ⟨fun pins s σ H v u Q I r q => h.run pins s σ H v u Q I r (k _ _ _ _ q)⟩
theorem PGs.imp {X : Cx} {e : List Expr} {t t' : TGs} (h : PGs X e t) (k : ∀ v σ H Q, t' v σ H Q → t v σ H Q) : PGs X e t' := ⟨fun pins s σ H v u Q I r q => h.run pins s σ H v u Q I r (k _ _ _ _ q)⟩
def gN (i : Nat) : GM := fun d δ P => P (δ.set i (.v d))
theorem dg_name (i : Nat) {x : Str} (h : PG X (.Name x pos) (gName i)) : DG X (.Name x pos) (gN i) := PG.imp h fun v σ H Q ⟨F, own, δ, d, P, E, r, g, q⟩ => q _ _ (E.set i r) g
def gsNil : GMs := fun ds δ P => ds = [] ∧ P δ
def gsCons (g : GM) (gs : GMs) : GMs := fun ds δ P => ∃ d r, ds = d :: r ∧ g d δ fun δ' => gs r δ' P
theorem dgs_nil : DGs X [] gsNil := PGs.imp pgs_nil fun vs σ H Q ⟨F, own, δ, ds, P, E, r, g, q⟩ => by
  obtain ⟨rfl, g⟩ := g
  cases r
  exact ⟨rfl, q _ _ E g⟩
theorem dgs_cons {g : GM} {gs : GMs} (h1 : DG X e g) (h2 : DGs X es gs) (hs : (assignEach (e :: es) X.env).map (·.2) = assign e X.env :: (assignEach es X.env).map (·.2) := by rfl) : DGs X (e :: es) (gsCons g gs) :=
  PGs.imp (pgs_cons h1 h2 hs) fun vs σ H Q ⟨F, own, δ, ds, P, E, r, g, q⟩ => by
    obtain ⟨d, dr, rfl, g⟩ := g
    cases r with
    | cons r rr => exact ⟨_, _, rfl, F, own, δ, d, _, E, r, g, fun σ' δ' E' g' => ⟨F, own, δ', dr, P, E', rr, g', q⟩⟩
def gT (n : Nat) (gs : GMs) : GM := fun d δ P => ∃ ds, d = .tup ds ∧ ds.length = n ∧ gs ds δ P
theorem dg_tup {j : Nat} {gs : GMs} {n : Nat} (hc : X.calm = true) (h : DGs X es gs) (hn : (assignEach es X.env).length = n := by rfl) (hst : (assignEach es X.env).findIdx? (·.1) = none := by rfl) : DG X (.Tuple es j pos) (gT n gs) :=
  PG.imp (pg_tup hc h hn hst) fun v σ H Q ⟨F, own, δ, d, P, E, r, g, q⟩ => by
    obtain ⟨ds, rfl, hl, g⟩ := g
    cases r with
    | tup h1 h2 h3 => exact ⟨_, _, rfl, sameT sub_le h1, by rw [h3.length]; exact hl, F, own, δ, ds, P, E, h3, g, q⟩
/-! ### stores -/
def sAsg (ma : TM) (g : GM) : SM := fun δ k => ma δ (fun d => g d δ k.nx) (k.er δ)
theorem ds_asg {tg : Expr} {g : GM} (he : DE X W e false ma) (hg : DG X tg g) (hs : swapsWithSole [tg] e pos.line X.env = pure false := by rfl) (hw : swappedStores [tg] e X.env = pure none := by rfl)
    (h1 : (assignEach [tg] X.env).map (·.2) = [assign tg X.env] := by rfl) : DS X W (.Assign [tg] e pos) (sAsg ma g) :=
  PS.imp (ps_asg he hg hs hw h1) fun D σ H ⟨F, own, δ, k, E, h, L⟩ => ⟨F, own, δ, _, _, L.at E, h, fun d v H' p s r =>
    ⟨F, own, δ, d, _, E.grow s, r.clean, p, fun σ' δ' E' q => L.nx σ' H' own δ' E' q⟩⟩
def sSet (i : Nat) (ma : TM) : SM := fun δ k => ma δ (fun d => k.nx (δ.set i (.v d))) (k.er δ)
theorem ds_set (i : Nat) {x : Str} {pos' : Pos} (hN : X.N.Nodup) (he : DE X W e false ma) (hi : X.N[i]? = some x := by rfl) (hx : Loc X.env.scope x := by first | exact .inl rfl | exact .inr rfl) (hs : swapsWith e (some (.Name x pos')) pos.line X.env = pure false := by rfl)
    (hf : X.fn x = true ∨ X.env.scope.names.lookup x = some .local := by first | exact .inl rfl | exact .inr rfl) : DS X W (.Assign [.Name x pos'] e pos) (sSet i ma) :=
  PS.imp (ps_set hN hi hx he hs hf) fun D σ H ⟨F, own, δ, k, E, h, L⟩ => ⟨F, own, δ, _, _, L.at E, h, fun d v H' p s r => L.nx _ H' own _ ((E.grow s).set i r.clean) p⟩
def sSetM (i : Nat) (ma : TM) : SM := fun δ k => ma δ (fun d => k.nx (δ.set i (.m d))) (k.er δ)
theorem ds_setm (i : Nat) {x : Str} {pos' : Pos} (hN : X.N.Nodup) (he : DF X W e ma) (hi : X.N[i]? = some x := by rfl) (hx : Loc X.env.scope x := by first | exact .inl rfl | exact .inr rfl) (hs : swapsWith e (some (.Name x pos')) pos.line X.env = pure false := by rfl)
    (hf : X.fn x = true ∨ X.env.scope.names.lookup x = some .local := by first | exact .inl rfl | exact .inr rfl) : DS X W (.Assign [.Name x pos'] e pos) (sSetM i ma) :=
  PS.imp (ps_set hN hi hx he hs hf) fun D σ H ⟨F, own, δ, k, E, h, L⟩ => ⟨F, own, δ, _, _, L.at E, h, fun d p H' pd hp s r => L.nx _ H' (p :: own) _ (E.setm i hp s r) pd⟩
def sPar (i j : Nat) (la : LM) : SM := fun δ k => la δ (fun ds => ∃ d e, ds = [d, e] ∧ k.nx ((δ.set i (.v d)).set j (.v e))) (k.er δ)
theorem ds_par (i j : Nat) {x y : Str} {px py pt : Pos} {kt k2 : Nat} {pt2 : Pos} (hc : X.calm = true) (hN : X.N.Nodup) (ha : DA X W [a, b] false la) (hi : X.N[i]? = some x := by rfl) (hj : X.N[j]? = some y := by rfl) (hij : i ≠ j := by decide)
    (hx : X.env.scope.names.lookup x = some .local := by rfl) (hy : X.env.scope.names.lookup y = some .local := by rfl)
    (hw : swappedStores [.Tuple [.Name x px, .Name y py] kt pt] (.Tuple [a, b] k2 pt2) X.env = pure (some [x, y]) := by rfl)
    (hs : swapsWithSole [.Tuple [.Name x px, .Name y py] kt pt] (.Tuple [a, b] k2 pt2) pos.line X.env = pure false := by rfl) : DS X W (.Assign [.Tuple [.Name x px, .Name y py] kt pt] (.Tuple [a, b] k2 pt2) pos) (sPar i j la) :=
  PS.imp (ps_par hc hN hi hj hij hx hy ha hw hs) fun D σ H ⟨F, own, δ, k, E, h, L⟩ => ⟨F, own, δ, _, _, L.at E, h, fun ds vs H' p s r => by
    obtain ⟨d, e, rfl, p⟩ := p
    have r := r.clean
    cases r with
    | cons r1 r => cases r with
      | cons r2 r => cases r; exact ⟨_, _, rfl, L.nx _ H' own _ (((E.grow s).set i r1).set j r2) p⟩⟩
end
end DL
set_option Elab.async false
set_option linter.all false
set_option maxRecDepth 100000
set_option maxHeartbeats 4000000
/-! DL4: append, loops, comprehensions. -/
namespace DL
open PySem PySem.Spec PyProof.Rows L2
variable [TabsC]
section
variable {X : Cx} {W : WX} {a b c e o : Expr} {es rest : List Expr} {st : Stmt} {sts sts' : List Stmt} {ba bb bc : Bool} {ma mb mc : TM} {na nb : BM} {la : LM} {pos : Pos} {m m' : SM}
/-! ### a list of one's own grows -/
def sApp (i : Nat) (ma : TM) : SM := fun δ k => ∃ ds, δ[i]? = some (.m (.list ds)) ∧ ma δ (fun d => ds.length < sizeLine ∧ k.nx (δ.set i (.m (.list (ds ++ [d]))))) (k.er δ)
theorem mut_list {K : PySem.W.Frag} {F : Fm} {own : List Addr} {σ : L2.St} {δ : List DV} {H : Hp} {i : Nat} {ds : List D} (E : EnvD K F own σ δ H) (h : δ[i]? = some (.m (.list ds))) :
    ∃ a xs, σ[i]? = some (some (.ref a)) ∧ a ∈ own ∧ H a = some (.lst xs) ∧ xs.length ≤ sizeLine ∧ Reps K (sub H (F.ls0 ++ own)) xs ds := by
  obtain ⟨s, e1, a, rfl, ha, r⟩ := E.slot i _ h
  obtain ⟨a', xs, e2, h1, h2, h3⟩ := r.list
  cases e2
  exact ⟨a, xs, e1, ha, h1, h2, h3⟩
theorem ds_app (i : Nat) {x : Str} {p apos cpos : Pos} (ho : PE X (.Name x p) (tVar i)) (he : DE X W e false ma)
    (hbase : attributeBase (.Name x p) "append" X.env (eval (.Name x p) X.env) = eval (.Name x p) X.env := by rfl)
    (hfew : ((backTo cpos (starEach [e] X.env)).all (fun x => !x.1) && (backToKw cpos (keywordEach [] X.env)).all (fun x => x.1.isSome) && decide (([e] : List Expr).length + ([] : List Keyword).length + (if ([] : List Keyword).isEmpty then 0 else 1) < 30)) = true := by rfl)
    (hline : (apos.endLine == cpos.line) = true := by rfl) (hs : starEach [e] X.env = (false, eval e X.env) :: starEach [] X.env := by rfl)
    (hplain : (backTo cpos (starEach [] X.env)).any (·.1) = false := by rfl) (hsw : swapsWith (.Call (.Attribute (.Name x p) "append" apos) [e] [] cpos) none pos.line X.env = pure false := by rfl) :
    DS X W (.Expr (.Call (.Attribute (.Name x p) "append" apos) [e] [] cpos) pos) (sApp i ma) :=
  PS.imp (ps_expr (pe_bm PySem.F.plainAttrs_list PySem.F.slot_list_append PySem.F.type_list_append mt_append ho (pa_cons he pa_nil hs) hbase hfew hline hs hplain) hsw) fun D σ H ⟨F, own, δ, k, E, h, L⟩ => by
    obtain ⟨ds, hd, h⟩ := h
    obtain ⟨a, xs, e1, ha, h1, h2, h3⟩ := mut_list E hd
    refine ⟨_, e1, .inl ⟨rfl, _, .of h1⟩, F, own, δ, _, _, L.at E, h, fun d v H' p s r => ?_⟩
    obtain ⟨hl, p⟩ := p
    have h1' := s _ _ h1
    have hl' : xs.length < sizeLine := by rw [h3.length]; exact hl
    have es : sub (upd H' a (.lst (xs ++ [v]))) (F.ls0 ++ own) = sub H' (F.ls0 ++ own) := sub_upd (List.mem_append_right _ ha)
    refine ⟨a, xs, v, rfl, rfl, h1', hl', L.nx _ _ own _ ((E.grow s).put hd e1 h1' (.ml (E.sep a ha) upd_same ?_ ?_)) p⟩
    · rw [List.length_append, List.length_singleton]; omega
    · rw [es]
      exact (h3.mono (sub_same s)).append (.cons r.clean .nil)
def sExt (i : Nat) (ma : TM) : SM := fun δ k => ∃ ds, δ[i]? = some (.m (.list ds)) ∧ ma δ (fun d => ∃ es, d = .list es ∧ ds.length + es.length ≤ sizeLine ∧ k.nx (δ.set i (.m (.list (ds ++ es))))) (k.er δ)
theorem ds_ext (i : Nat) {x : Str} {p apos cpos : Pos} (ho : PE X (.Name x p) (tVar i)) (he : DE X W e ba ma)
    (hbase : attributeBase (.Name x p) "extend" X.env (eval (.Name x p) X.env) = eval (.Name x p) X.env := by rfl)
    (hfew : ((backTo cpos (starEach [e] X.env)).all (fun x => !x.1) && (backToKw cpos (keywordEach [] X.env)).all (fun x => x.1.isSome) && decide (([e] : List Expr).length + ([] : List Keyword).length + (if ([] : List Keyword).isEmpty then 0 else 1) < 30)) = true := by rfl)
    (hline : (apos.endLine == cpos.line) = true := by rfl) (hs : starEach [e] X.env = (false, eval e X.env) :: starEach [] X.env := by rfl)
    (hplain : (backTo cpos (starEach [] X.env)).any (·.1) = false := by rfl) (hsw : swapsWith (.Call (.Attribute (.Name x p) "extend" apos) [e] [] cpos) none pos.line X.env = pure false := by rfl) :
    DS X W (.Expr (.Call (.Attribute (.Name x p) "extend" apos) [e] [] cpos) pos) (sExt i ma) :=
  PS.imp (ps_expr (pe_bm PySem.F.plainAttrs_list PySem.F.slot_list_extend PySem.F.type_list_extend mt_extend ho (pa_cons he pa_nil hs) hbase hfew hline hs hplain) hsw) fun D σ H ⟨F, own, δ, k, E, h, L⟩ => by
    obtain ⟨ds, hd, h⟩ := h
    obtain ⟨a, xs, e1, ha, h1, h2, h3⟩ := mut_list E hd
    refine ⟨_, e1, .inl ⟨rfl, _, .of h1⟩, F, own, δ, _, _, L.at E, h, fun d v H' p s r => ?_⟩
    obtain ⟨es, rfl, hl, p⟩ := p
    have h1' := s _ _ h1
    obtain ⟨b, ys, rfl, q1, q2, q3⟩ := r.list
    have hl' : xs.length + ys.length ≤ sizeLine := by rw [h3.length, q3.length]; exact hl
    have es : sub (upd H' a (.lst (xs ++ ys))) (F.ls0 ++ own) = sub H' (F.ls0 ++ own) := sub_upd (List.mem_append_right _ ha)
    refine ⟨a, b, xs, ys, rfl, rfl, h1', q1, hl', L.nx _ _ own _ ((E.grow s).put hd e1 h1' (.ml (E.sep a ha) upd_same ?_ ?_)) p⟩
    · rw [List.length_append]; exact hl'
    · rw [es]
      exact (h3.mono (sub_same s)).append q3
/-! ### what is walked -/
structure ItOk (K : PySem.W.Frag) (J : It) (Hg Hb : Hp) (ds : List D) : Prop where
  sz : ds.length ≤ sizeLine
  go : ∀ (i : Nat) H, Grow Hg H → i < ds.length → J.go i H
  stop : ∀ (i : Nat) H, Grow Hg H → i = ds.length → J.stop i H
  yld : ∀ (i : Nat) H x H' ls, Grow Hg H → Grow Hb (sub H ls) → (∀ l, l ∈ ls → ∃ o, H l = some o ∧ Plain o) → i < ds.length → J.yld i H x H' → ∃ d, ds[i]? = some d ∧ Same H H' ∧ Rep K (sub H' ls) x d
theorem ItOk.mono {K : PySem.W.Frag} {J : It} {Hg Hg' Hb : Hp} {ds : List D} (h : ItOk K J Hg Hb ds) (e : Grow Hg Hg') : ItOk K J Hg' Hb ds :=
  ⟨h.sz, fun i H s => h.go i H (e.trans s), fun i H s => h.stop i H (e.trans s), fun i H x H' ls s => h.yld i H x H' ls (e.trans s)⟩
def flo (b : Bool) (H : Hp) (ls : List Addr) : Hp := if b = true then H else sub H ls
def ti (K : PySem.W.Frag) (W : WX) (b : Bool) (mi : LM) : TI := fun σ H R => ∃ (F : Fm) (own : List Addr) (δ : List DV) (P : List D → Prop) (EK : Er → Prop), At K W σ H F own δ EK ∧ mi δ P EK ∧
  ∀ ds J H1, P ds → Same H H1 → ItOk K J (flo b H1 (F.ls0 ++ own)) (sub H1 (F.ls0 ++ own)) ds → R J H1
def DI (X : Cx) (W : WX) (tg it : Expr) (b : Bool) (mi : LM) : Prop := PI X tg it (ti X.K W b mi)
theorem PI.imp {X : Cx} {tg e : Expr} {t t' : TI} (h : PI X tg e t) (k : ∀ σ H Q, t' σ H Q → t σ H Q) : PI X tg e t' := ⟨fun pins s σ H Q I q => h.run pins s σ H Q I (k _ _ _ q)⟩
theorem itok_list {K : PySem.W.Frag} {Hg Hb : Hp} {a : Addr} {xs : List V} {ds : List D} (h : Hg a = some (.lst xs)) (hz : xs.length ≤ sizeLine) (r : Reps K Hb xs ds) : ItOk K (Itl K a) Hg Hb ds where
  sz := by rw [← r.length]; exact hz
  go := fun i H s hi => ⟨xs, xs[i]'(by rw [r.length]; exact hi), .of (s _ _ h), List.getElem?_eq_getElem _⟩
  stop := fun i H s hi => ⟨xs, .of (s _ _ h), by rw [r.length]; omega⟩
  yld := fun i H x H' ls s sb ht hi ⟨e, y⟩ => by
    subst e
    obtain ⟨d, e, r'⟩ := r.get (y xs (.of (s _ _ h)))
    exact ⟨d, e, Same.refl _, r'.mono sb⟩
theorem itok_tup {K : PySem.W.Frag} {Hg Hb : Hp} {a : Addr} {xs : List V} {ds : List D} (h : SqT K Hg a xs) (hz : xs.length ≤ sizeLine) (r : Reps K Hb xs ds) : ItOk K (Itt K a) Hg Hb ds where
  sz := by rw [← r.length]; exact hz
  go := fun i H s hi => ⟨xs, xs[i]'(by rw [r.length]; exact hi), sameT s h, List.getElem?_eq_getElem _⟩
  stop := fun i H s hi => ⟨xs, sameT s h, by rw [r.length]; omega⟩
  yld := fun i H x H' ls s sb ht hi ⟨e, y⟩ => by
    subst e
    obtain ⟨d, e, r'⟩ := r.get (y xs (sameT s h))
    exact ⟨d, e, Same.refl _, r'.mono sb⟩
def mSeq (ma : TM) : LM := fun δ P E => ma δ (fun d => (∃ ds, d = .list ds ∧ P ds) ∨ (∃ ds, d = .tup ds ∧ P ds)) E
theorem flo_list {H : Hp} {b : Bool} {K : PySem.W.Frag} {fo ls : List Addr} {v : V} {ds : List D} (r : RV K fo ls H b v (.list ds)) : ∃ a xs, v = .ref a ∧ flo b H ls a = some (.lst xs) ∧ xs.length ≤ sizeLine ∧ Reps K (sub H ls) xs ds := by
  cases r with
  | cl r =>
    cases r with
    | list h l r =>
      refine ⟨_, _, rfl, ?_, l, r⟩
      unfold flo
      split
      · exact sub_le _ _ h
      · exact h
  | ml n h l r => exact ⟨_, _, rfl, h, l, r⟩
theorem flo_tup {H : Hp} {b : Bool} {K : PySem.W.Frag} {fo ls : List Addr} {v : V} {ds : List D} (r : RV K fo ls H b v (.tup ds)) : ∃ a xs, v = .ref a ∧ SqT K (flo b H ls) a xs ∧ xs.length ≤ sizeLine ∧ Reps K (sub H ls) xs ds := by
  cases r with
  | cl r =>
    cases r with
    | tup h l r =>
      refine ⟨_, _, rfl, ?_, l, r⟩
      unfold flo
      split
      · exact sameT sub_le h
      · exact h
theorem flo_le {H : Hp} {b : Bool} {ls : List Addr} : Grow (flo b H ls) H := by
  unfold flo
  split
  · exact Grow.refl _
  · exact sub_le
theorem di_seq {tg : Expr} (he : DE X W e ba ma) : DI X W tg e ba (mSeq ma) := by
  refine ⟨fun pins s σ H R I ⟨F, own, δ, P, EK, A, m, q⟩ => ?_⟩
  have hr := he.run pins s σ H (fun v H1 => Same H H1 ∧ ((∃ a xs ds, v = .ref a ∧ flo ba H1 (F.ls0 ++ own) a = some (.lst xs) ∧ xs.length ≤ sizeLine ∧ Reps X.K (sub H1 (F.ls0 ++ own)) xs ds ∧ P ds) ∨
    (∃ a xs ds, v = .ref a ∧ SqT X.K (flo ba H1 (F.ls0 ++ own)) a xs ∧ xs.length ≤ sizeLine ∧ Reps X.K (sub H1 (F.ls0 ++ own)) xs ds ∧ P ds))) I ⟨F, own, δ, _, EK, A, m, fun d v H1 p s1 r => ⟨s1, by
      rcases p with ⟨ds, rfl, p⟩ | ⟨ds, rfl, p⟩
      · obtain ⟨a, xs, rfl, h1, h2, h3⟩ := flo_list r
        exact .inl ⟨a, xs, ds, rfl, h1, h2, h3, p⟩
      · obtain ⟨a, xs, rfl, h1, h2, h3⟩ := flo_tup r
        exact .inr ⟨a, xs, ds, rfl, h1, h2, h3, p⟩⟩⟩
  refine thn hr fun v s1 ⟨x, H1, I1, r1, s01, q1⟩ => ?_
  have fresh : ∀ bb, bb ∈ [s1.heap.objs.size] → FpOk X pins H1 bb := fun bb hb => by
    obtain rfl := List.mem_singleton.mp hb
    exact I1.fpOk (Nat.le_refl _) (I1.hok.fresh (Nat.le_refl _))
  have pushed : ∀ ob : Obj, Inv X pins σ H1 { s1 with heap := s1.heap.push ob } := fun ob => I1.kept (t' := s1.toks) fun b o q => Heap.get?_push_of_some _ q
  rcases q1 with ⟨a, xs, ds, rfl, h1, h2, h3, p⟩ | ⟨a, xs, ds, rfl, h1, h2, h3, p⟩
  · cases r1
    obtain ⟨its, rv, pl, hz⟩ := I1.list (SqL.of (flo_le _ _ h1))
    refine wpAny_pyIter_list pl.isList ⟨_, [s1.heap.objs.size], _, _, H1, rfl, pushed _, turn_list a _, ⟨_, Heap.get?_push_size _ rfl, rfl, rfl⟩, fresh, q ds _ H1 p s01 (itok_list h1 h2 h3)⟩
  · cases r1
    obtain ⟨its, rv, pl, hz⟩ := I1.tuple (sameT flo_le h1)
    refine wpAny_pyIter_tuple (show s1.heap.IsTuple a its.toArray from pl) ⟨_, [s1.heap.objs.size], _, _, H1, rfl, pushed _, turn_tuple a _, ⟨_, Heap.get?_push_size _ rfl, rfl, rfl⟩, fresh, q ds _ H1 p s01 (itok_tup h1 h2 h3)⟩
/-- ranges -/
def rangeD (lo : Int) (n : Nat) : List D := (List.range n).map fun i => D.int (lo + (i : Nat))
theorem rangeD_length (lo : Int) (n : Nat) : (rangeD lo n).length = n := by unfold rangeD; rw [List.length_map, List.length_range]
theorem itok_range {K : PySem.W.Frag} {Hg Hb : Hp} {lo : Int} {n : Nat} (hz : n ≤ sizeLine) : ItOk K (Itr lo n) Hg Hb (rangeD lo n) where
  sz := by rw [rangeD_length]; exact hz
  go := fun i H s hi => by rw [rangeD_length] at hi; exact hi
  stop := fun i H s hi => by rw [rangeD_length] at hi; show n ≤ i; omega
  yld := fun i H x H' ls s sb ht hi ⟨e, y⟩ => by
    subst e y
    rw [rangeD_length] at hi
    refine ⟨.int (lo + i), ?_, Same.refl _, .int _⟩
    unfold rangeD
    rw [List.getElem?_map, List.getElem?_range hi]
    rfl
theorem RVs.one {K : PySem.W.Frag} {fo ls : List Addr} {H : Hp} {b : Bool} {vs : List V} {d : D} (r : RVs K fo ls H b vs [d]) : ∃ v, vs = [v] ∧ RV K fo ls H b v d := by
  cases r with
  | cons r t => cases t; exact ⟨_, rfl, r⟩
theorem RVs.two {K : PySem.W.Frag} {fo ls : List Addr} {H : Hp} {b : Bool} {vs : List V} {d d' : D} (r : RVs K fo ls H b vs [d, d']) : ∃ v v', vs = [v, v'] ∧ RV K fo ls H b v d ∧ RV K fo ls H b v' d' := by
  cases r with
  | cons r t => cases t with
    | cons r' t => cases t; exact ⟨_, _, rfl, r, r'⟩
theorem line62 {j : Int} {lo : Int} (h : (j - lo).toNat ≤ sizeLine) (h0 : -(2 ^ 61) ≤ lo) (h1 : lo < 2 ^ 61) (h2 : -(2 ^ 61) ≤ j) : -(2 ^ 62) ≤ lo ∧ lo < 2 ^ 62 ∧ -(2 ^ 62) ≤ j ∧ j < 2 ^ 62 := by
  rw [sizeLine_eq] at h
  omega
def mRange1 (la : LM) : LM := fun δ P E => la δ (fun ds => ∃ j : Int, ds = [.int j] ∧ -(2 ^ 61) ≤ j ∧ j.toNat ≤ sizeLine ∧ P (rangeD 0 j.toNat)) E
def mRange2 (la : LM) : LM := fun δ P E => la δ (fun ds => ∃ i j : Int, ds = [.int i, .int j] ∧ -(2 ^ 61) ≤ i ∧ i < 2 ^ 61 ∧ -(2 ^ 61) ≤ j ∧ (j - i).toNat ≤ sizeLine ∧ P (rangeD i (j - i).toNat)) E
theorem di_range1 {tg : Expr} {p : Pos} (hg : Gl X "range") (hm : X.mg "range" = none) (ha : DA X W [a] true la) (hs : starEach [a] X.env = [(false, eval a X.env)] := by rfl) : DI X W tg (.Call (.Name "range" p) [a] [] pos) ba (mRange1 la) :=
  PI.imp (pi_range1 hg hm ha hs) fun σ H R ⟨F, own, δ, P, EK, A, m, q⟩ => ⟨F, own, δ, _, EK, A, m, fun ds vs H1 p s r => by
    obtain ⟨j, rfl, h0, h1, p⟩ := p
    obtain ⟨v, rfl, rq⟩ := r.one
    have b := line62 (j := j) (lo := 0) (by simpa using h1) (by decide) (by decide) h0
    exact ⟨j, by rw [rq.isInt], b.2.2.1, b.2.2.2, q _ _ H1 p s (itok_range h1)⟩⟩
/-- a text, sign by sign -/
def signsD (x : Str) : List D := x.cps.toList.map fun c => D.str ⟨#[c]⟩
def mSigns (ma : TM) : LM := fun δ P E => ma δ (fun d => ∃ x, d = .str x ∧ x.length ≤ sizeLine ∧ P (signsD x)) E
/-! ### loops -/
def forL (g : GM) (mb : SM) : List D → SM
  | [] => fun δ k => k.nx δ
  | d :: ds => fun δ k => g d δ fun δ' => mb δ' { k with nx := fun δ'' => forL g mb ds δ'' k, ct := fun δ'' => forL g mb ds δ'' k, bk := k.nx }
def sFor (mi : LM) (g : GM) (mb : SM) : SM := fun δ k => mi δ (fun ds => forL g mb ds δ k) (k.er δ)
theorem drop_get {α : Type} {l : List α} {i : Nat} {x : α} (h : l[i]? = some x) : l.drop i = x :: l.drop (i + 1) := by
  obtain ⟨hi, e⟩ := List.getElem?_eq_some_iff.mp h
  rw [← e]
  exact List.drop_eq_getElem_cons hi
theorem ds_for {tg it : Expr} {mi : LM} {g : GM} (hp : PassesOwn (model X.prog X.w) X.A X.env X.xe) (hc : X.calm = true) (hi : DI X W tg it false mi) (hg : DG X tg g) (hb : DSs X W sts m) (hs : ∀ x, foldedSetIterable it X.env x = pure x := by intro _; rfl) :
    DS X W (.For tg it sts [] pos) (sFor mi g m) :=
  PS.imp (ps_for hp hc hi hg hb hs) fun D σ H ⟨F, own, δ, k, E, h, L⟩ => by
    refine ⟨F, own, δ, _, _, L.at E, h, fun ds J H1 hds s1 ok => ?_⟩
    have E1 := E.grow s1
    refine ⟨fun i n σ H => n = ds.length - i ∧ i ≤ ds.length ∧ ∃ own' δ', EnvD X.K { F with Hi := sub H1 (F.ls0 ++ own) } own' σ δ' H ∧ forL g m (ds.drop i) δ' k, ⟨_, rfl, Nat.zero_le _, own, δ, E1.floor, hds⟩, ?_⟩
    rintro i n σ2 H2 ⟨rfl, hi2, own2, δ2, E2, q2⟩
    have sg : Grow (sub H1 (F.ls0 ++ own)) H2 := E2.imm.trans sub_le
    by_cases hlt : i < ds.length
    · refine .inr ⟨ok.go i H2 sg hlt, fun σ H => ∃ own' δ', EnvD X.K { F with Hi := sub H1 (F.ls0 ++ own) } own' σ δ' H ∧ forL g m (ds.drop (i + 1)) δ' k, fun σ' H' ⟨own', δ', E', q'⟩ => ⟨_, (by omega), rfl, hlt, own', δ', E', q'⟩, fun x H3 y => ?_⟩
      obtain ⟨d, ed, s3, r3⟩ := ok.yld i H2 x H3 (F.ls0 ++ own2) sg E2.imm E2.trk hlt y
      rw [drop_get ed] at q2
      refine ⟨_, own2, δ2, d, _, E2.grow s3, r3, q2, fun σ4 δ4 E4 q4 => ⟨_, own2, δ4, _, E4, q4, ?_⟩⟩
      exact ⟨fun σ' H' own' δ' E' q' => ⟨own', δ', E', q'⟩, fun v σ' H' own' δ' d' E' r' q' => L.rt v σ' H' own' δ' d' (E'.unfloor E1.imm) r' q', fun σ' H' own' δ' E' q' => L.nx σ' H' own' δ' (E'.unfloor E1.imm) q', fun σ' H' own' δ' E' q' => ⟨own', δ', E', q'⟩, fun er cls dd σ' H' own' δ' E' q' r' => L.er er cls dd σ' H' own' δ' (E'.unfloor E1.imm) q' r'⟩
    · have e : i = ds.length := by omega
      subst e
      rw [List.drop_length] at q2
      exact .inl ⟨ok.stop _ H2 sg rfl, L.nx _ _ own2 δ2 (E2.unfloor E1.imm) q2⟩
/-! ### comprehensions -/
def wipeD (δ : List DV) : List Nat → List DV
  | [] => δ
  | v :: vs => (wipeD δ vs).set v .u
theorem EnvD.wipe {K : PySem.W.Frag} {F : Fm} {own : List Addr} {σ : L2.St} {δ : List DV} {H : Hp} (E : EnvD K F own σ δ H) : ∀ vs : List Nat, EnvD K F own (L2.wipe σ vs) (wipeD δ vs) H
  | [] => E
  | v :: vs => (EnvD.wipe E vs).unset v none
theorem wipe_at {σ : L2.St} {i : Nat} (hi : i < σ.length) : ∀ {vs : List Nat}, i ∈ vs → (L2.wipe σ vs)[i]? = some none
  | v :: vs, h => by
    unfold L2.wipe
    by_cases e : v = i
    · subst e
      exact List.getElem?_set_self (by rw [wipe_length]; exact hi)
    · rw [List.getElem?_set_ne e]
      rcases List.mem_cons.mp h with z | z
      · exact absurd z.symm e
      · exact wipe_at hi z
theorem wipe_off {σ : L2.St} {i : Nat} : ∀ {vs : List Nat}, i ∉ vs → (L2.wipe σ vs)[i]? = σ[i]?
  | [], _ => rfl
  | v :: vs, h => by
    unfold L2.wipe
    rw [List.getElem?_set_ne fun e => h (by rw [e]; exact List.mem_cons_self)]
    exact wipe_off fun z => h (List.mem_cons_of_mem _ z)
theorem wipe_set {σ : L2.St} {i : Nat} {s : Option V} {vs : List Nat} (h : i ∈ vs) : L2.wipe (σ.set i s) vs = L2.wipe σ vs := by
  apply List.ext_getElem?
  intro j
  by_cases hj : j ∈ vs
  · by_cases hl : j < σ.length
    · rw [wipe_at hl hj, wipe_at (by rw [List.length_set]; exact hl) hj]
    · rw [List.getElem?_eq_none (by rw [wipe_length, List.length_set]; omega), List.getElem?_eq_none (by rw [wipe_length]; omega)]
  · rw [wipe_off hj, wipe_off hj, List.getElem?_set_ne fun e => hj (by rw [← e]; exact h)]
theorem wipe_wipe {σ : L2.St} {vs : List Nat} : L2.wipe (L2.wipe σ vs) vs = L2.wipe σ vs := by
  apply List.ext_getElem?
  intro j
  by_cases hj : j ∈ vs
  · by_cases hl : j < σ.length
    · rw [wipe_at (by rw [wipe_length]; exact hl) hj, wipe_at hl hj]
    · rw [List.getElem?_eq_none (by rw [wipe_length, wipe_length]; omega), List.getElem?_eq_none (by rw [wipe_length]; omega)]
  · rw [wipe_off hj]
/-- targets of a block: they set its own slots alone -/
def tgw (K : PySem.W.Frag) (vs : List Nat) (g : GM) : TG := fun v σ H Q => ∃ (F : Fm) (own : List Addr) (δ : List DV) (d : D) (P : List DV → Prop), EnvD K F own σ δ H ∧ Rep K (sub H (F.ls0 ++ own)) v d ∧ g d δ P ∧ ∀ σ' δ', EnvD K F own σ' δ' H → L2.wipe σ' vs = L2.wipe σ vs → P δ' → Q σ' H
def tgws (K : PySem.W.Frag) (vs : List Nat) (g : GMs) : TGs := fun us σ H Q => ∃ (F : Fm) (own : List Addr) (δ : List DV) (ds : List D) (P : List DV → Prop), EnvD K F own σ δ H ∧ Reps K (sub H (F.ls0 ++ own)) us ds ∧ g ds δ P ∧ ∀ σ' δ', EnvD K F own σ' δ' H → L2.wipe σ' vs = L2.wipe σ vs → P δ' → Q σ' H
def DGw (X : Cx) (vs : List Nat) (e : Expr) (g : GM) : Prop := PG X e (tgw X.K vs g)
def DGws (X : Cx) (vs : List Nat) (es : List Expr) (g : GMs) : Prop := PGs X es (tgws X.K vs g)
variable {vs : List Nat}
theorem dgw_name (i : Nat) {x : Str} (h : PG X (.Name x pos) (gName i)) (hv : i ∈ vs := by decide) : DGw X vs (.Name x pos) (gN i) := PG.imp h fun v σ H Q ⟨F, own, δ, d, P, E, r, g, q⟩ => q _ _ (E.set i r) (wipe_set hv) g
theorem dgws_nil : DGws X vs [] gsNil := PGs.imp pgs_nil fun us σ H Q ⟨F, own, δ, ds, P, E, r, g, q⟩ => by
  obtain ⟨rfl, g⟩ := g
  cases r
  exact ⟨rfl, q _ _ E rfl g⟩
theorem dgws_cons {g : GM} {gs : GMs} (h1 : DGw X vs e g) (h2 : DGws X vs es gs) (hs : (assignEach (e :: es) X.env).map (·.2) = assign e X.env :: (assignEach es X.env).map (·.2) := by rfl) : DGws X vs (e :: es) (gsCons g gs) :=
  PGs.imp (pgs_cons h1 h2 hs) fun us σ H Q ⟨F, own, δ, ds, P, E, r, g, q⟩ => by
    obtain ⟨d, dr, rfl, g⟩ := g
    cases r with
    | cons r rr => exact ⟨_, _, rfl, F, own, δ, d, _, E, r, g, fun σ' δ' E' w' g' => ⟨F, own, δ', dr, P, E', rr, g', fun σ2 δ2 E2 w2 => q σ2 δ2 E2 (w2.trans w')⟩⟩
theorem dgw_tup {j : Nat} {gs : GMs} {n : Nat} (hc : X.calm = true) (h : DGws X vs es gs) (hn : (assignEach es X.env).length = n := by rfl) (hst : (assignEach es X.env).findIdx? (·.1) = none := by rfl) : DGw X vs (.Tuple es j pos) (gT n gs) :=
  PG.imp (pg_tup hc h hn hst) fun v σ H Q ⟨F, own, δ, d, P, E, r, g, q⟩ => by
    obtain ⟨ds, rfl, hl, g⟩ := g
    cases r with
    | tup h1 h2 h3 => exact ⟨_, _, rfl, sameT sub_le h1, by rw [h3.length]; exact hl, F, own, δ, ds, P, E, h3, g, q⟩
def DTs (X : Cx) (W : WX) (ifs : List Expr) (m : BM) : Prop := PTs X ifs (tb X.K W m)
def mYes : BM := fun _ Q _ => Q true
theorem PTs.imp {X : Cx} {e : List Expr} {t t' : TT} (h : PTs X e t) (k : ∀ σ H Q, t' σ H Q → t σ H Q) : PTs X e t' := ⟨fun pins s σ H Q I q => h.run pins s σ H Q I (k _ _ _ q)⟩
theorem dts_nil : DTs X W [] mYes := PTs.imp pts_nil fun σ H Q ⟨F, own, δ, P, EK, A, m, q⟩ => q true H m (Same.refl H)
theorem dts_one (h : DT X W c na) : DTs X W [c] na := pts_one h
def compL (g : GM) (mt : BM) (me : TM) (δ0 : List DV) : List D → List D → (D → Prop) → Prop
  | [], acc, Q => Q (.list acc)
  | d :: ds, acc, Q => g d δ0 fun δ' => mt δ' (fun b => if b = true then me δ' (fun y => compL g mt me δ0 ds (acc ++ [y]) Q) NoE else compL g mt me δ0 ds acc Q) NoE
def mComp (vs : List Nat) (mi : LM) (g : GM) (mt : BM) (me : TM) : TM := fun δ Q E => mi δ (fun ds => compL g mt me (wipeD δ vs) ds [] Q) E
theorem noPass {K : PySem.W.Frag} {ls : List Addr} {σ : L2.St} {H : Hp} {W : WX} : Pass K W ls σ H NoE := fun _ _ _ _ h => h.elim
/-- a cell of ours that no name holds is written -/
theorem EnvD.poke {K : PySem.W.Frag} {F : Fm} {own : List Addr} {σ : L2.St} {δ : List DV} {H : Hp} (E : EnvD K F own σ δ H) {a : Addr} {o o' : HO} (ha : a ∈ own) (ho : H a = some o') (hn : ∀ (j : Nat) (dj : D), δ[j]? = some (.m dj) → σ[j]? ≠ some (some (.ref a))) (hp : Plain o' := by exact plain_of) (hp2 : Plain o := by exact plain_of) : EnvD K F own σ δ (upd H a o) := by
  have hin : a ∈ F.ls0 ++ own := List.mem_append_right _ ha
  have s : Same (sub H [a]) (upd H a o) := same_put
  have g : Grow (sub H (F.ls0 ++ own)) (sub (upd H a o) (F.ls0 ++ own)) := s.butSub hin
  refine ⟨E.same.but (E.new a ha) ho hp s, E.imm.trans g, s.tb fun p hq => TabS.less ho hp (E.tabs p hq), E.new, fun l hl => ?_, E.sep, E.len, fun j dv hj => ?_, E.lent, E.alone, E.apart⟩
  · by_cases z : l = a
    · exact ⟨o, by rw [z]; exact upd_same, hp2⟩
    · obtain ⟨u, q, nn⟩ := E.trk l hl
      exact ⟨u, by rw [upd_ne z]; exact q, nn⟩
  · obtain ⟨s1, q1, q⟩ := E.slot j dv hj
    refine ⟨s1, q1, ?_⟩
    cases dv with
    | u => trivial
    | v d => obtain ⟨x, q2, r2⟩ := q; exact ⟨x, q2, r2.mono g⟩
    | m d2 =>
      obtain ⟨c, q2, hc, r2⟩ := q
      subst q2
      have nca : c ≠ a := fun z => hn j d2 hj (by rw [q1, z])
      exact ⟨c, rfl, hc, r2.grow g fun u hu n => s.butAt nca hu n⟩
    | s d2 =>
      obtain ⟨b, C, dx, n, fs, ds, q2, h1, h2, h3, h4, r⟩ := q
      have nba : b ≠ a := fun z => E.sep a ha (by rw [← z]; exact h1)
      exact ⟨b, C, dx, n, fs, ds, q2, h1, h2, h3, s.butAt nba h4, r.mono g⟩
theorem df_comp {elt tg it : Expr} {ifs : List Expr} {scope : Scope} {own : List (Str × Nat)} {mi : LM} {g : GM} {mt : BM} {me : TM} (hc : X.calm = true) (hN : X.N.Nodup) (hi : DI X W tg it ba mi) (ok : BlkOk X.N X.env.scope scope own)
    (hg : ∀ (s : Shared) (H : Hp) (C : Addr) (cl : List (Str × Addr)) (fp : List Addr), DGw (X.blk s H scope (compEnvC scope cl C X.env) fp) (own.map (·.2)) tg g) (ht : ∀ (s : Shared) (H : Hp) (C : Addr) (cl : List (Str × Addr)) (fp : List Addr), DTs (X.blk s H scope (compEnvC scope cl C X.env) fp) NoW ifs mt)
    (he : ∀ (s : Shared) (H : Hp) (C : Addr) (cl : List (Str × Addr)) (fp : List Addr), DE (X.blk s H scope (compEnvC scope cl C X.env) fp) NoW elt false me) (hs : ∀ x, foldedSetIterable it X.env x = pure x := by intro _; rfl) :
    DF X W (.ListComp elt [⟨tg, it, ifs, 0⟩] scope pos) (mComp (own.map (·.2)) mi g mt me) :=
  PE.imp (pe_lc (g := tgw X.K (List.map (fun x : Str × Nat => x.2) own) g) (tt := tb X.K NoW mt) (te := tm X.K NoW false me) hc hN hi ok hg ht he hs) fun σ H Q ⟨F, ow, δ, P, EK, A, m, q⟩ => by
    refine ⟨F, ow, δ, _, EK, A, m, fun ds J H1 hds s1 ok => ?_⟩
    intro Dn hD
    have E1 := A.env.grow s1
    have nodn : ∀ (j : Nat) (dj : D), (wipeD δ (own.map (·.2)))[j]? = some (.m dj) → (L2.wipe σ (own.map (·.2)))[j]? ≠ some (some (.ref Dn)) := fun j dj h z => by
      obtain ⟨s, e1, a, e2, ha, _⟩ := (E1.wipe (own.map (·.2))).slot j _ h
      rw [e1] at z; cases z
      cases e2
      obtain ⟨o, q, nn⟩ := E1.trk Dn (List.mem_append_right _ ha)
      rw [hD] at q; cases q
    refine ⟨fun i n H => n = ds.length - i ∧ i ≤ ds.length ∧ Same H1 H ∧ EnvD X.K F (Dn :: ow) (L2.wipe σ (own.map (·.2))) (wipeD δ (own.map (·.2))) H ∧ ∃ xs acc, H Dn = some (.lst xs) ∧ xs.length ≤ i ∧ Reps X.K (sub H (F.ls0 ++ (Dn :: ow))) xs acc ∧ compL g mt me (wipeD δ (own.map (·.2))) (ds.drop i) acc P,
      ⟨_, rfl, Nat.zero_le _, same_upd hD, (E1.wipe _).grab hD (same_upd hD) ⟨_, upd_same, plain_of⟩, [], [], upd_same, Nat.le_refl _, .nil, hds⟩, ?_⟩
    rintro i n H2 ⟨rfl, hi2, s2, E2, xs, acc, hx, hl, rx, q2⟩
    have sg : Grow (flo ba H1 (F.ls0 ++ ow)) H2 := flo_le.trans s2.ob
    have sb : Grow (sub H1 (F.ls0 ++ ow)) (sub H2 (F.ls0 ++ (Dn :: ow))) := by
      rw [← sub_congr (H := H2) (mem_swap (ls := F.ls0) (own := ow) (p := Dn))]
      exact sub_fresh hD s2
    by_cases hlt : i < ds.length
    · refine .inr ⟨ok.go i H2 sg hlt, fun H' => Same H1 H' ∧ EnvD X.K F (Dn :: ow) (L2.wipe σ (own.map (·.2))) (wipeD δ (own.map (·.2))) H' ∧ ∃ xs acc, H' Dn = some (.lst xs) ∧ xs.length ≤ i + 1 ∧ Reps X.K (sub H' (F.ls0 ++ (Dn :: ow))) xs acc ∧ compL g mt me (wipeD δ (own.map (·.2))) (ds.drop (i + 1)) acc P,
        fun H' ⟨s', E', z⟩ => ⟨_, (by omega), rfl, hlt, s', E', z⟩, fun x H3 y => ?_⟩
      obtain ⟨d, ed, s3, r3⟩ := ok.yld i H2 x H3 (F.ls0 ++ (Dn :: ow)) sg sb E2.trk hlt y
      rw [drop_get ed] at q2
      have hz : xs.length < sizeLine := Nat.lt_of_le_of_lt hl (Nat.lt_of_lt_of_le hlt ok.sz)
      refine ⟨F, Dn :: ow, _, d, _, E2.grow s3, r3, q2, fun σ4 δ4 E4 w4 q4 => ⟨by rw [w4]; exact wipe_wipe, F, Dn :: ow, δ4, _, NoE, ⟨E4, noPass⟩, q4, fun b H5 p5 s5 => ?_⟩⟩
      cases b with
      | false =>
        have p5' : compL g mt me (wipeD δ (own.map (·.2))) (ds.drop (i + 1)) acc P := by simpa using p5
        exact iteF ⟨(s2.trans s3).trans s5, E2.grow (s3.trans s5), xs, acc, s5 _ _ (s3 _ _ hx), Nat.le_succ_of_le hl, rx.mono (sub_same (s3.trans s5)), p5'⟩
      | true =>
        refine iteT ⟨F, Dn :: ow, δ4, _, NoE, ⟨E4.grow s5, noPass⟩, (by simpa using p5), fun yd v H6 p6 s6 r6 => ?_⟩
        have hx6 := s6 _ _ (s5 _ _ (s3 _ _ hx))
        have es : sub (upd H6 Dn (.lst (xs ++ [v]))) (F.ls0 ++ (Dn :: ow)) = sub H6 (F.ls0 ++ (Dn :: ow)) := sub_upd (List.mem_append_right _ List.mem_cons_self)
        have sn : Same H1 (upd H6 Dn (.lst (xs ++ [v]))) := Same.put (((s2.trans s3).trans s5).trans s6) hD hx6
        refine ⟨xs, hx6, hz, sn, (E2.grow ((s3.trans s5).trans s6)).poke List.mem_cons_self hx6 nodn, xs ++ [v], acc ++ [yd], upd_same, ?_, ?_, p6⟩
        · rw [List.length_append, List.length_singleton]; omega
        · rw [es]
          exact (rx.mono (sub_same ((s3.trans s5).trans s6))).append (.cons r6.clean .nil)
    · have e : i = ds.length := by omega
      subst e
      rw [List.drop_length] at q2
      refine .inl ⟨ok.stop _ H2 sg rfl, q _ Dn H2 q2 (s1.free hD) (s1.trans s2) (.l hx (Nat.le_trans hl ok.sz) ?_)⟩
      rw [sub_congr (H := H2) (mem_swap (ls := F.ls0) (own := ow) (p := Dn))]
      exact rx
end
end DL
set_option Elab.async false
set_option linter.all false
set_option maxRecDepth 100000
set_option maxHeartbeats 4000000
/-! DL5: what a def computes, as data; calls. -/
namespace DL
open PySem PySem.Spec PyProof.Rows L2
variable [TabsC]
/-- no repr runs around; the table of modules stands -/
def GdOk (A : Around) (base : Heap) : Prop := A.guards = some [] ∧ ∃ mm, base.Ns sysModules mm
/-- a def's promise of positional calls where no repr runs around it -/
def FnP (P : Program) (w : World) (K : PySem.W.Frag) (mg : Str → Option Value) (base : Heap) (k : Nat) (f : Addr) (sp : Sp) : Prop :=
  ∀ (A : Around) (outer : List Env) (s : Shared) (H : Hp) (us : List Value) (vs : List V) (Q : VK) (E : XK), GdOk A base → Room k A → Env0 P w K mg base A outer s H → Vals vs us → sp vs H Q E → codeAny (model P w) A (.call (.ref f) ⟨us, []⟩) (CR (L2.CX P w) outer P w H s Q E) s
theorem FnP.mono {P : Program} {w : World} {K : PySem.W.Frag} {mg : Str → Option Value} {base : Heap} {j k : Nat} {f : Addr} {sp : Sp} (F : FnP P w K mg base j f sp) (h : j ≤ k) : FnP P w K mg base k f sp :=
  fun A outer s H us vs Q E hG hr => F A outer s H us vs Q E hG (hr.mono h)
abbrev FM := List D → (D → Prop) → (Er → Prop) → Prop
def spD (K : PySem.W.Frag) (m : FM) : Sp := fun vs H Q E => ∃ (fo : List Addr) (ds : List D) (P : D → Prop) (EK : Er → Prop), (∀ l, l ∈ fo → ∃ o, H l = some o ∧ Plain o) ∧ LamX.Tabs TabsC.T H ∧ Reps K (sub H fo) vs ds ∧ m ds P EK ∧
  (∀ d v H', P d → Same H H' → Rep K (sub H' fo) v d → Q v H') ∧ (∀ er cls dd H', EK er → Same H H' → RepEr K fo H' cls dd er → E cls dd H')
abbrev FnD (P : Program) (w : World) (K : PySem.W.Frag) (mg : Str → Option Value) (base : Heap) (k : Nat) (f : Addr) (m : FM) : Prop := FnP P w K mg base k f (spD K m)
/-- another reckoning that asks no less -/
theorem FnD.imp {P : Program} {w : World} {K : PySem.W.Frag} {mg : Str → Option Value} {base : Heap} {k : Nat} {f : Addr} {m m' : FM} (F : FnD P w K mg base k f m) (h : ∀ ds Q E, m' ds Q E → m ds Q E) : FnD P w K mg base k f m' :=
  fun A outer s H us vs Q E hG hr e r ⟨fo, ds, P, EK, t, tb, rs, m, q⟩ => F A outer s H us vs Q E hG hr e r ⟨fo, ds, P, EK, t, tb, rs, h _ _ _ m, q⟩
/-! .. of a method that may write its self -/
abbrev MM := D → List D → (D → D → Prop) → (D → Er → Prop) → Prop
def spM (K : PySem.W.Frag) (m : MM) : Sp := fun vs H Q E => ∃ (fo : List Addr) (x C dx : Addr) (n : Str) (ws : List V) (fs : List (Str × V)) (dfs : List (Str × D)) (ds : List D) (P : D → D → Prop) (EK : D → Er → Prop), vs = .ref x :: ws ∧ x ∈ fo ∧ (∀ l, l ∈ fo → ∃ o, H l = some o ∧ Plain o) ∧ LamX.Tabs TabsC.T H ∧
  PySem.W.nsIn K mainGlobals n = some (some (.ref C)) ∧ H x = some (.ins C dx fs) ∧ RepFs K (sub H fo) fs dfs ∧ Reps K (sub H fo) ws ds ∧ m (.obj n dfs) ds P EK ∧
  (∀ n' dfs' d v H' C' dx' fs', P (.obj n' dfs') d → PySem.W.nsIn K mainGlobals n' = some (some (.ref C')) → Same (sub H [x]) H' → H' x = some (.ins C' dx' fs') → RepFs K (sub H' fo) fs' dfs' → Rep K (sub H' fo) v d → Q v H') ∧
  (∀ n' dfs' er cls dd H' C' dx' fs', EK (.obj n' dfs') er → PySem.W.nsIn K mainGlobals n' = some (some (.ref C')) → Same (sub H [x]) H' → H' x = some (.ins C' dx' fs') → RepFs K (sub H' fo) fs' dfs' → RepEr K fo H' cls dd er → E cls dd H')
abbrev FnM (P : Program) (w : World) (K : PySem.W.Frag) (mg : Str → Option Value) (base : Heap) (k : Nat) (f : Addr) (m : MM) : Prop := FnP P w K mg base k f (spM K m)
theorem FnM.imp {P : Program} {w : World} {K : PySem.W.Frag} {mg : Str → Option Value} {base : Heap} {k : Nat} {f : Addr} {m m' : MM} (F : FnM P w K mg base k f m) (h : ∀ d ds Q E, m' d ds Q E → m d ds Q E) : FnM P w K mg base k f m' :=
  fun A outer s H us vs Q E hG hr e r ⟨fo, x, C, dx, n, ws, fs, dfs, ds, P, EK, ev, hx, t, tb, hn, ha, rf, rs, m, q⟩ => F A outer s H us vs Q E hG hr e r ⟨fo, x, C, dx, n, ws, fs, dfs, ds, P, EK, ev, hx, t, tb, hn, ha, rf, rs, h _ _ _ _ m, q⟩
def startD (n : Nat) (ds : List D) : List DV := ds.map DV.v ++ List.replicate (n - ds.length) DV.u
def endK (P : D → Prop) (EK : Er → Prop) : KD := ⟨fun _ => P .none, fun _ d => P d, fun _ => False, fun _ => False, fun _ er => EK er⟩
/-- the body's reckoning as the def's: np parameters -/
def mFun (np n : Nat) (m : SM) : FM := fun ds P EK => ds.length = np ∧ m (startD n ds) (endK P EK)
/-- .. with defaults for the last ones -/
def mFunD (np n : Nat) (dds : List D) (m : SM) : FM := fun ds P EK => ds.length ≤ np ∧ np ≤ ds.length + dds.length ∧ m (startD n (ds ++ dds.drop (ds.length + dds.length - np))) (endK P EK)
/-- .. with a star behind the parameters -/
def mFunS (np n : Nat) (m : SM) : FM := fun ds P EK => np ≤ ds.length ∧ ds.length ≤ sizeLine ∧ m (startD n (ds.take np ++ [.tup (ds.drop np)])) (endK P EK)
def endM (P : D → D → Prop) (EK : D → Er → Prop) : KD := ⟨fun δ => ∃ d, δ[0]? = some (.s d) ∧ P d .none, fun δ r => ∃ d, δ[0]? = some (.s d) ∧ P d r, fun _ => False, fun _ => False, fun δ er => ∃ d, δ[0]? = some (.s d) ∧ EK d er⟩
def mFunM (np n : Nat) (m : SM) : MM := fun self ds P EK => ds.length + 1 = np ∧ m (.s self :: startD (n - 1) ds) (endM P EK)
def mFunMD (np n : Nat) (dds : List D) (m : SM) : MM := fun self ds P EK => ds.length + 1 ≤ np ∧ np ≤ ds.length + 1 + dds.length ∧ m (.s self :: startD (n - 1) (ds ++ dds.drop (ds.length + 1 + dds.length - np))) (endM P EK)
def mFunMS (n : Nat) (m : SM) : MM := fun self ds P EK => ds.length ≤ sizeLine ∧ m (.s self :: startD (n - 1) [.tup ds]) (endM P EK)
theorem start_slot {K : PySem.W.Frag} {fo : List Addr} {vs : List V} {ds : List D} {H : Hp} {n m : Nat} (r : Reps K (sub H fo) vs ds) (e : n - ds.length = m - vs.length) : ∀ (i : Nat) (dv : DV), (startD n ds)[i]? = some dv → ∃ s, (vs.map some ++ List.replicate (m - vs.length) none)[i]? = some s ∧ ((∃ d v, dv = .v d ∧ s = some v ∧ Rep K (sub H fo) v d) ∨ dv = .u) := by
  intro i dv h
  have hl := r.length
  unfold startD at h
  by_cases hi : i < ds.length
  · rw [List.getElem?_append_left (by simpa using hi), List.getElem?_map, List.getElem?_eq_getElem hi] at h
    have h' : DV.v ds[i] = dv := Option.some.inj h
    subst h'
    obtain ⟨v, ev, rv⟩ := r.get' (List.getElem?_eq_getElem hi)
    refine ⟨some v, ?_, .inl ⟨_, v, rfl, rfl, rv⟩⟩
    rw [List.getElem?_append_left (by rw [List.length_map, hl]; exact hi), List.getElem?_map, ev]
    rfl
  · rw [List.getElem?_append_right (by simpa using hi), List.getElem?_replicate] at h
    split at h
    · cases h
      rename_i hq
      refine ⟨none, ?_, .inr rfl⟩
      rw [List.getElem?_append_right (by rw [List.length_map, hl]; omega), List.getElem?_replicate, if_pos]
      rw [List.length_map] at hq ⊢
      rw [← e, hl]
      exact hq
    · cases h
theorem startD_len {n : Nat} {ds : List D} : (startD n ds).length = ds.length + (n - ds.length) := by
  unfold startD
  rw [List.length_append, List.length_map, List.length_replicate]
theorem startD_kind {n i : Nat} {ds : List D} {dv : DV} (h : (startD n ds)[i]? = some dv) : (∃ d, dv = .v d) ∨ dv = .u := by
  unfold startD at h
  by_cases hi : i < ds.length
  · rw [List.getElem?_append_left (by simpa using hi), List.getElem?_map, List.getElem?_eq_getElem hi] at h
    exact .inl ⟨_, (Option.some.inj h).symm⟩
  · rw [List.getElem?_append_right (by simpa using hi), List.getElem?_replicate] at h
    split at h
    · exact .inr (Option.some.inj h).symm
    · cases h
theorem env_start {K : PySem.W.Frag} {fo : List Addr} {vs : List V} {ds : List D} {H : Hp} {N : List Str} (ht : ∀ l, l ∈ fo → ∃ o, H l = some o ∧ Plain o) (tb : LamX.Tabs TabsC.T H) (r : Reps K (sub H fo) vs ds) : EnvD K ⟨fo, H, sub H fo⟩ [] (L2.start N vs) (startD N.length ds) H := by
  have e : fo ++ [] = fo := List.append_nil fo
  have hl := r.length
  have no : ∀ (i : Nat) (d : D), (startD N.length ds)[i]? ≠ some (.s d) ∧ (startD N.length ds)[i]? ≠ some (.m d) := fun i d => by
    constructor
    · intro z
      rcases startD_kind z with ⟨_, q⟩ | q <;> cases q
    · intro z
      rcases startD_kind z with ⟨_, q⟩ | q <;> cases q
  refine ⟨Same.refl H, by rw [e]; exact Grow.refl _, tb, fun l h => absurd h (by simp), fun l h => ht l (by rw [← e]; exact h), fun l h => absurd h (by simp), ?_, fun i dv h => ?_, fun i d a h => absurd h (no i d).1, fun i j di dj a h => absurd h (no i di).1, fun i j di dj a h => absurd h (no i di).2⟩
  · rw [startD_len]
    unfold L2.start
    rw [List.length_append, List.length_map, List.length_replicate, hl]
  · obtain ⟨s, hs, q⟩ := start_slot (m := N.length) r (by rw [hl]) i dv h
    refine ⟨s, hs, ?_⟩
    rcases q with ⟨d, v, rfl, rfl, rv⟩ | rfl
    · exact ⟨v, rfl, by rw [e]; exact rv⟩
    · trivial
section
variable {P : Program} {w : World} {K : PySem.W.Frag} {mg : Str → Option Value} {base : Heap}
/-- THE RULE for a def, by its body's reading -/
theorem fnP_of {x qual : Str} {st : Stmt} {f : Addr} {fd : FuncData} {N ps : List Str} {k : Nat} {sp sb : Sp} (F : Fun K x qual st f fd) (S : FnScope N ps (defScope st))
    (har : ∀ (s : Shared) (us : List Value) (vs : List V) (H : Hp) (Q : VK) (E : XK), K.In s.heap → Vals vs us → sp vs H Q E → ∃ vs' us', Vals vs' us' ∧ vs'.length = ps.length ∧ BindsTo s fd ⟨us, []⟩ (ps.zip us') ∧ sb vs' H Q E)
    (hbody : ∀ (cdv : Value) (A : Around) (outer : List Env) (s : Shared) (H : Hp) (vs : List V) (Q : VK) (E : XK), GdOk A base → Room k (A.deeper (envOfC qual (defScope st) s.heap.objs.size f cdv)) → sb vs H Q E →
      ∃ t, PSs (cxOf (L2.CX P w) P w K mg base N qual (defScope st) f cdv A outer s H E) (defBody st) t ∧ t { nx := fun _ H' => Q .non H', rt := Q } (L2.start N vs) H) : FnP P w K mg base (k + 1) f sp := by
  obtain ⟨oc, od, kV, doc, pm, an, cdv, ct, osl, rfl, lk, hcd⟩ := F.ex
  intro A outer s H us0 vs0 Q E hG hr e0 r0 hsp0
  have KX : K.In s.heap := e0.mod.kin.keeps fun b o e => (e0.bs b o e).1
  obtain ⟨vs, us, r, hl, hb, hsp⟩ := har s us0 vs0 H Q E KX r0 hsp0
  have lim : s.heap.NoLimit := e0.mod.nolimit.keeps fun b o e => (e0.bs b o e).1
  refine codeAny_call_function hr.depth (KX _ _ lk) rfl S.co S.gen rfl (PySem.W.codeRec_of KX hcd) (hb _ _ _ _ ?_)
  refine wpAny_newFunctionEnv_cells S.kind (fun ⟨n, v⟩ hy => ?_) fun env he s1 x => ?_
  · rcases S.par n (List.of_mem_zip hy).1 with q | q
    · exact .inl q
    · exact .inr ⟨q, PySem.W.cellsFrom_some _ _ _ (.inl q)⟩
  subst he
  refine ⟨lim.keeps x.toInCall.keep, codeAny_func ?_⟩
  have I : Inv (cxOf (L2.CX P w) P w K mg base N qual (defScope st) f cdv A outer s H E) [] (L2.start N vs) H s1 := inv_start S hr.hd e0 hl r x
  obtain ⟨t, ht, hw⟩ := hbody cdv A outer s H vs Q E hG (hr.deeper _) hsp
  refine wpAny_mono (ht.run [] s1 _ H _ I hw) (fun fl s' hs => ?_) fun e s' hs => hs
  cases fl with
  | ret u =>
    obtain ⟨v, σ', H', J, rv, q⟩ := hs
    exact ⟨v, H', J.os, J.bare, J.base, J.hok, rv, q⟩
  | next =>
    obtain ⟨σ', H', J, q⟩ := hs
    exact ⟨V.non, H', J.os, J.bare, J.base, J.hok, rfl, q⟩
  | brk =>
    obtain ⟨_, _, _, q⟩ := hs
    exact q.elim
  | cont =>
    obtain ⟨_, _, _, q⟩ := hs
    exact q.elim
/-- .. with a star behind np parameters -/
theorem fnP_star {x qual pv : Str} {st : Stmt} {f : Addr} {fd : FuncData} {N ps : List Str} {k : Nat} {sp sb : Sp} (F : Fun K x qual st f fd) (S : FnScope N (ps ++ [pv]) (defScope st))
    (hb : ∀ us rest : List Value, us.length = ps.length → bindArgs fd ⟨us ++ rest, []⟩ = (newTuple rest >>= fun t => pure (ps.zip us ++ [(pv, t)])))
    (har : ∀ (vs : List V) (H : Hp) (Q : VK) (E : XK), sp vs H Q E → ∃ ws rest, vs = ws ++ rest ∧ ws.length = ps.length ∧ rest.length ≤ sizeLine ∧ ∀ p, H p = none → sb (ws ++ [V.ref p]) (upd H p (.tup rest)) Q E)
    (hbody : ∀ (cdv : Value) (A : Around) (outer : List Env) (s : Shared) (H : Hp) (vs : List V) (Q : VK) (E : XK), GdOk A base → Room k (A.deeper (envOfC qual (defScope st) s.heap.objs.size f cdv)) → sb vs H Q E →
      ∃ t, PSs (cxOf (L2.CX P w) P w K mg base N qual (defScope st) f cdv A outer s H E) (defBody st) t ∧ t { nx := fun _ H' => Q .non H', rt := Q } (L2.start N vs) H) : FnP P w K mg base (k + 1) f sp := by
  obtain ⟨oc, od, kV, doc, pm, an, cdv, ct, osl, rfl, lk, hcd⟩ := F.ex
  intro A outer s H us vs Q E hG hr e0 r hsp0
  obtain ⟨ws, rest, ev, hl, hz, hq⟩ := har vs H Q E hsp0
  subst ev
  obtain ⟨u1, u2, eu, r1, r2⟩ := StX.vals_split r
  subst eu
  have hn : H s.heap.objs.size = Option.none := e0.hok.fresh (Nat.le_refl _)
  have hl1 : u1.length = ps.length := by rw [← r1.length]; exact hl
  have hl2 : u2.length ≤ sizeLine := by rw [← r2.length]; exact hz
  refine StX.run_bnd lk hcd S hr e0 (G := fun xs H2 => ∃ p, H p = Option.none ∧ xs = ws ++ [V.ref p] ∧ H2 = upd H p (.tup rest)) (fun A' Ex Q' h => ?_) fun s2 H2 xs ⟨p, hp, ex, eH⟩ hr' => ?_
  · rw [hb u1 u2 hl1]
    refine wpAny_bind (wpAny_newTuple (wpAny_pure ?_) hl2)
    have new : ObjOk P w (upd H s.heap.objs.size (.tup rest)) (s.heap.push ({ cls := .type "tuple", data := .seq u2.toArray } : Obj)) s.heap.objs.size (.tup rest) := ⟨hz, u2, r2, ⟨_, Heap.get?_push_size _ rfl, rfl, _, rfl⟩⟩
    have un := StX.un_laid (fs := frs outer) (s := s) (o := ({ cls := .type "tuple", data := .seq u2.toArray } : Obj)) (u := .tup rest) hn
    have z := h _ _ (ws ++ [V.ref s.heap.objs.size]) (u1 ++ [Value.ref s.heap.objs.size]) (StX.env0_laid e0 new) un rfl (fun e s' => StX.cxUp outer s H _ _ E e s' un (fun b o q => Heap.get?_push_of_some _ q) rfl) (r1.append (.cons rfl .nil))
      (by rw [List.length_append, List.length_append, hl] <;> rfl) ⟨_, hn, rfl, rfl⟩
    rw [List.zip_append hl1.symm] at z
    exact z
  · subst ex eH
    exact hbody _ A outer s2 _ _ Q E hG hr' (hq p hp)
theorem links_end {cx : Cx} {fo : List Addr} {H : Hp} {Q : VK} {E : XK} {P : D → Prop} {EK : Er → Prop} {Hi : Hp} (hq : ∀ d v H', P d → Same H H' → Rep K (sub H' fo) v d → Q v H') (he : ∀ er cls dd H', EK er → Same H H' → RepEr K fo H' cls dd er → E cls dd H') :
    LinkS K (fun cls dd _ H => E cls dd H) ⟨fo, H, Hi⟩ (endK P EK) { nx := fun _ H' => Q .non H', rt := Q } :=
  ⟨fun σ H' own δ E' q => hq .none .non H' q E'.same .non, fun v σ H' own δ d E' r' q => hq d v H' q E'.same r', fun _ _ _ _ _ q => q.elim, fun _ _ _ _ _ q => q.elim, fun er cls dd σ H' own δ E' q r' => he er cls dd H' q E'.same (r'.less fun a h => List.mem_append_left _ h)⟩
abbrev Wof (E : XK) : WX := fun cls dd _ H => E cls dd H
variable {x qual pv : Str} {st : Stmt} {f : Addr} {fd : FuncData} {N ps : List Str} {k : Nat} {m : SM}
theorem fnD_of (F : Fun K x qual st f fd) (S : FnScope N ps (defScope st)) (hb : Binds K fd ps [])
    (hbody : ∀ (cdv : Value) (A : Around) (outer : List Env) (s : Shared) (H : Hp) (E : XK), GdOk A base → Room k (A.deeper (envOfC qual (defScope st) s.heap.objs.size f cdv)) →
      DSs (cxOf (L2.CX P w) P w K mg base N qual (defScope st) f cdv A outer s H E) (Wof E) (defBody st) m) : FnD P w K mg base (k + 1) f (mFun ps.length N.length m) := by
  refine fnP_of F S (sb := spD K (mFun ps.length N.length m)) (fun s us vs H Q E hK r h => ?_) fun cdv A outer s H vs Q E hG hr h => ?_
  · obtain ⟨fo, ds, PQ, EK, ht, tb, rs, ⟨hl, hm⟩, q⟩ := id h
    have e : us.length = ps.length := by rw [← r.length, rs.length]; exact hl
    have b := hb s us hK (by rw [List.append_nil]; exact e)
    rw [List.append_nil] at b
    exact ⟨vs, us, r, by rw [rs.length]; exact hl, b, h⟩
  · obtain ⟨fo, ds, PQ, EK, ht, tb, rs, ⟨hl, hm⟩, hq, he⟩ := h
    exact ⟨_, hbody cdv A outer s H E hG hr, ⟨fo, H, sub H fo⟩, [], _, _, env_start ht tb rs, hm, links_end (cx := cxOf (L2.CX P w) P w K mg base N qual (defScope st) f cdv A outer s H E) hq he⟩
/-! methods with a self that may be written -/
end
/-! ### calls -/
section
variable {X : Cx} {W : WX} {a b c e o : Expr} {es : List Expr} {ba : Bool} {la : LM} {p pos : Pos} {x : Str} {k : Nat} {f : Addr} {m : FM}
theorem runP {pins : List (Addr × Obj)} {σ : L2.St} {H : Hp} {s : Shared} {Q : VK} {us : List Value} {vs : List V} {sp : Sp} {E : XK} (F : FnP X.prog X.w X.K X.mg X.base k f sp) (hG : GdOk X.A X.base) (hr : Room k X.A) (tk : Takes X W)
    (hE : ∀ cls dd H', E cls dd H' → W cls dd σ H') (I : Inv X pins σ H s) (r : Vals vs us) (h : sp vs H Q E) : wpAny (model X.prog X.w) X.A (call (.ref f) us) (EP X pins σ Q) X.xe s := by
  refine wpAny_call (codeAny_mono (F X.A X.stack s H us vs Q E hG hr I.env0 r h) fun r s' hq => ?_)
  cases r with
  | error e => exact tk e s' (XE.of_call I hE hq)
  | ok fl =>
    cases fl with
    | ret u => exact I.after hq
    | next => exact False.elim hq
    | brk => exact False.elim hq
    | cont => exact False.elim hq
def mCall (m : FM) (la : LM) : TM := fun δ Q E => la δ (fun ds => m ds Q E) E
theorem At.tabs {K : PySem.W.Frag} {W : WX} {σ : L2.St} {H : Hp} {F : Fm} {own : List Addr} {δ : List DV} {EK : Er → Prop} (A : At K W σ H F own δ EK) : LamX.Tabs TabsC.T H := A.env.tabs
theorem de_call (F : FnD X.prog X.w X.K X.mg X.base k f m) (hG : GdOk X.A X.base) (hr : Room k X.A) (tk : Takes X W) (hg : Gl X x) (hm : X.mg x = some (.ref f)) (hk : PySem.W.keepIn X.K (.ref f) = true)
    (ha : DA X W (e :: es) false la) (hdb : (x == ("__debug__" : Str)) = false := by decide) (he : starEach (e :: es) X.env = (false, eval e X.env) :: starEach es X.env := by rfl)
    (hpl : (backTo pos (starEach es X.env)).any (·.1) = false := by rfl) : DE X W (.Call (.Name x p) (e :: es) [] pos) false (mCall m la) := by
  refine ⟨fun pins s σ H Q I ⟨FF, own, δ, P, EK, A, mm, q⟩ => ?_⟩
  refine wpAny_Call_Name_kw (ld_glob I hg hm ?_ hdb)
  refine PySem.W.callWith_K (h₀ := X.base) I.ok.mod.kin hk (thn (ha.run pos pins s σ H (fun vs H1 => ∃ ds, m ds P EK ∧ Same H H1 ∧ RVs X.K FF.ls0 (FF.ls0 ++ own) H1 false vs ds) I
    ⟨FF, own, δ, _, EK, A, mm, fun ds vs H1 p1 s1 r1 => ⟨ds, p1, s1, r1⟩⟩) fun us s1 ⟨vs, H1, I1, rv, ds, hm1, s01, rr⟩ => ⟨I1.kIn, ?_⟩) he hpl
  have A1 := A.on s01
  exact runP F hG hr tk (E := fun cls dd H' => W cls dd σ H') (fun _ _ _ h => h) I1 rv ⟨FF.ls0 ++ own, ds, P, EK, A1.env.trk, A1.tabs, rr.clean, hm1, fun d v H' pd s2 r2 => q d v H' pd (s01.trans s2) (.cl r2), fun er cls dd H' ke s2 r2 => A1.pass er cls dd H' ke s2 r2⟩
def mCall0 (m : FM) : TM := fun _ Q E => m [] Q E
end
end DL
set_option Elab.async false
set_option linter.all false
set_option maxRecDepth 100000
set_option maxHeartbeats 4000000
/-! DL6: operators and built-ins on data. -/
namespace DL
open PySem PySem.Spec PyProof.Rows L2
variable [TabsC]
section
variable {X : Cx} {W : WX}
/-! ### arithmetic -/
def fAdd (x y : D) (Q : D → Prop) : Prop := match x, y with
  | .int i, .int j => Q (.int (i + j))
  | .str a, .str b => a.length + b.length ≤ sizeLine ∧ Q (.str (a ++ b))
  | .tup xs, .tup ys => xs.length + ys.length ≤ sizeLine ∧ Q (.tup (xs ++ ys))
  | .list xs, .list ys => xs.length + ys.length ≤ sizeLine ∧ Q (.list (xs ++ ys))
  | _, _ => False
theorem op_addD : OpR X (binaryOp .Add) (fun x y H Q => rI0 (fun i j => .int (i + j)) x y H Q ∨ ((∃ i j, x = V.str i ∧ y = V.str j ∧ i.length + j.length ≤ sizeLine ∧ Q (V.str (i ++ j)) H) ∨ (rCatA X.K x y H Q ∨ rCat x y H Q))) := op_add.or (op_add_str.or (op_catA.or op_cat))
theorem nofr {H : Hp} {ls : List Addr} {p : Addr} (ht : ∀ l, l ∈ ls → ∃ o, H l = some o ∧ Plain o) (hp : H p = none) : p ∉ ls := fun z => by
  obtain ⟨o, e, nn⟩ := ht p z
  rw [hp] at e; cases e
theorem new_tup {K : PySem.W.Frag} {H : Hp} {ls : List Addr} {p : Addr} {xs : List V} {ds : List D} (ht : ∀ l, l ∈ ls → ∃ o, H l = some o ∧ Plain o) (hp : H p = none) (hz : xs.length ≤ sizeLine) (r : Reps K (sub H ls) xs ds) : Rep K (sub (upd H p (.tup xs)) ls) (.ref p) (.tup ds) :=
  .tup (.of (by rw [sub_out (nofr ht hp)]; exact upd_same)) hz (r.mono (sub_same (same_upd hp).ob))
theorem new_list {K : PySem.W.Frag} {H : Hp} {ls : List Addr} {p : Addr} {xs : List V} {ds : List D} (ht : ∀ l, l ∈ ls → ∃ o, H l = some o ∧ Plain o) (hp : H p = none) (hz : xs.length ≤ sizeLine) (r : Reps K (sub H ls) xs ds) : Rep K (sub (upd H p (.lst xs)) ls) (.ref p) (.list ds) :=
  .list (by rw [sub_out (nofr ht hp)]; exact upd_same) hz (r.mono (sub_same (same_upd hp).ob))
theorem link_add : LinkOp X.K (fun x y H Q => rI0 (fun i j => .int (i + j)) x y H Q ∨ ((∃ i j, x = V.str i ∧ y = V.str j ∧ i.length + j.length ≤ sizeLine ∧ Q (V.str (i ++ j)) H) ∨ (rCatA X.K x y H Q ∨ rCat x y H Q))) fAdd := by
  intro fo ls H x y dx dy P Q ht rx ry h q
  unfold fAdd at h
  split at h
  · exact .inl ⟨_, _, rx.isInt, ry.isInt, q _ _ H h (Same.refl H) (.int _)⟩
  · exact .inr (.inl ⟨_, _, rx.isStr, ry.isStr, h.1, q _ _ H h.2 (Same.refl H) (.str _)⟩)
  · obtain ⟨hz, h⟩ := h
    obtain ⟨a, us, rfl, ha, hl, rs⟩ := rx.tup
    obtain ⟨b, ws, rfl, hb, hl2, rs2⟩ := ry.tup
    have hz' : us.length + ws.length ≤ sizeLine := by rw [rs.length, rs2.length]; exact hz
    refine .inr (.inr (.inl ⟨a, b, us, ws, rfl, rfl, ha, hb, hz', fun e => ?_, fun _ e => ?_, fun _ _ p hp => ?_⟩))
    · subst e
      cases rs
      cases ry with
      | cl ry => exact q _ _ H h (Same.refl H) (by simpa using ry)
    · subst e
      cases rs2
      cases rx with
      | cl rx => exact q _ _ H h (Same.refl H) (by simpa using rx)
    · exact q _ _ _ h (same_upd hp) (new_tup ht hp (by rw [List.length_append]; exact hz') (rs.append rs2))
  · obtain ⟨hz, h⟩ := h
    obtain ⟨a, us, rfl, ha, hl, rs⟩ := rx.list
    obtain ⟨b, ws, rfl, hb, hl2, rs2⟩ := ry.list
    have hz' : us.length + ws.length ≤ sizeLine := by rw [rs.length, rs2.length]; exact hz
    exact .inr (.inr (.inr ⟨a, b, us, ws, rfl, rfl, ha, hb, hz', fun p hp => q _ _ _ h (same_upd hp) (new_list ht hp (by rw [List.length_append]; exact hz') (rs.append rs2))⟩))
  · exact h.elim
/-- two ints -/
def fI (C : Int → Int → Prop) (g : Int → Int → Int) (x y : D) (Q : D → Prop) : Prop := match x, y with
  | .int i, .int j => C i j ∧ Q (.int (g i j))
  | _, _ => False
theorem link_I {C : Int → Int → Prop} {g : Int → Int → Int} : LinkOp X.K (rI C fun i j => .int (g i j)) (fI C g) := by
  intro fo ls H x y dx dy P Q ht rx ry h q
  unfold fI at h
  split at h
  · exact ⟨_, _, rx.isInt, ry.isInt, h.1, q _ _ H h.2 (Same.refl H) (.int _)⟩
  · exact h.elim
def fSub (x y : D) (Q : D → Prop) : Prop := match x, y with
  | .int i, .int j => Q (.int (i - j))
  | _, _ => False
theorem link_sub : LinkOp X.K (rI0 fun i j => .int (i - j)) fSub := by
  intro fo ls H x y dx dy P Q ht rx ry h q
  unfold fSub at h
  split at h
  · exact ⟨_, _, rx.isInt, ry.isInt, q _ _ H h (Same.refl H) (.int _)⟩
  · exact h.elim
theorem op_mulD : OpR X (binaryOp .Mult) (rI IntMulOk fun i j => .int (i * j)) := opI fun _ _ _ _ _ _ _ hc q => mul_int q hc
def CPowD (i j : Int) : Prop := 0 ≤ j ∧ (Builtin.Int.intBits i : Int) * j ≤ 2 ^ 27
theorem op_powD : OpR X (binaryOp .Pow) (rI CPowD fun i j => .int (i ^ j.toNat)) := opI fun _ _ _ _ _ _ _ hc q => pow_int hc.1 hc.2 q
abbrev fMul := fI IntMulOk fun i j => i * j
abbrev fDiv := fI CDivW fun i j => i / j
abbrev fMod := fI (fun _ j => 0 < j) fun i j => i % j
abbrev fPow := fI CPowD fun i j => i ^ j.toNat
variable {a b e : Expr} {es : List Expr} {ba bb : Bool} {ma mb : TM} {la : LM} {pos p : Pos} {x : Str}
theorem de_add (ha : DE X W a ba ma) (hb : DE X W b bb mb) : DE X W (.BinOp a .Add b pos) false (mBin fAdd ma mb) := de_op op_addD link_add ha hb
theorem de_sub (ha : DE X W a ba ma) (hb : DE X W b bb mb) : DE X W (.BinOp a .Sub b pos) false (mBin fSub ma mb) := de_op op_sub link_sub ha hb
theorem de_mul (ha : DE X W a ba ma) (hb : DE X W b bb mb) : DE X W (.BinOp a .Mult b pos) false (mBin fMul ma mb) := de_op op_mulD link_I ha hb
theorem de_div (ha : DE X W a ba ma) (hb : DE X W b bb mb) : DE X W (.BinOp a .FloorDiv b pos) false (mBin fDiv ma mb) := de_op op_fdivW link_I ha hb
theorem de_mod (ha : DE X W a ba ma) (hb : DE X W b bb mb) : DE X W (.BinOp a .Mod b pos) false (mBin fMod ma mb) := de_op op_mod link_I ha hb
theorem de_pow (ha : DE X W a ba ma) (hb : DE X W b bb mb) : DE X W (.BinOp a .Pow b pos) false (mBin fPow ma mb) := de_op op_powD link_I ha hb
def mNeg (ma : TM) : TM := fun δ Q E => ma δ (fun d => ∃ i, d = .int i ∧ Q (.int (-i))) E
theorem de_neg (ha : DE X W a ba ma) : DE X W (.UnaryOp .USub a pos) false (mNeg ma) :=
  PE.imp (pe_un un_neg ha) fun σ H Q ⟨F, own, δ, P, EK, A, m, q⟩ => ⟨F, own, δ, _, EK, A, m, fun d v H' ⟨i, ed, p⟩ s r => by
    subst ed
    exact ⟨i, r.isInt, q _ _ H' p s (.cl (.int _))⟩⟩
/-! ### comparisons -/
def fCmp (g : Int → Int → Bool) (h : List Nat → List Nat → Bool) (x y : D) (Q : Bool → Prop) : Prop := match x, y with
  | .int i, .int j => Q (g i j)
  | .str a, .str b => Q (h a.cps.toList b.cps.toList)
  | _, _ => False
theorem link_cmp {g : Int → Int → Bool} {h : List Nat → List Nat → Bool} : LinkCmp X.K (fun x y H Q => rI0 (fun i j => .bl (g i j)) x y H Q ∨ ∃ i j, x = V.str i ∧ y = V.str j ∧ Q (V.bl (h i.cps.toList j.cps.toList)) H) (fCmp g h) := by
  intro fo ls H x y dx dy P Q rx ry hh q
  unfold fCmp at hh
  split at hh
  · exact .inl ⟨_, _, rx.isInt, ry.isInt, q _ hh⟩
  · exact .inr ⟨_, _, rx.isStr, ry.isStr, q _ hh⟩
  · exact hh.elim
abbrev fLt := fCmp (fun i j => decide (i < j)) fun i j => decide (i < j)
abbrev fLe := fCmp (fun i j => decide (i ≤ j)) fun i j => !decide (j < i)
abbrev fGt := fCmp (fun i j => decide (j < i)) fun i j => decide (j < i)
abbrev fGe := fCmp (fun i j => decide (j ≤ i)) fun i j => !decide (i < j)
theorem op_ltD : OpR X (compareOp .Lt) (fun x y H Q => rI0 (fun i j => .bl (decide (i < j))) x y H Q ∨ ∃ i j, x = V.str i ∧ y = V.str j ∧ Q (V.bl (decide (i.cps.toList < j.cps.toList))) H) := op_lt.or op_lt_str
theorem op_leD : OpR X (compareOp .LtE) (fun x y H Q => rI0 (fun i j => .bl (decide (i ≤ j))) x y H Q ∨ ∃ i j, x = V.str i ∧ y = V.str j ∧ Q (V.bl (!decide (j.cps.toList < i.cps.toList))) H) := op_le.or op_le_str
theorem op_gtD : OpR X (compareOp .Gt) (fun x y H Q => rI0 (fun i j => .bl (decide (j < i))) x y H Q ∨ ∃ i j, x = V.str i ∧ y = V.str j ∧ Q (V.bl (decide (j.cps.toList < i.cps.toList))) H) := op_gt.or op_gt_str
theorem op_geD : OpR X (compareOp .GtE) (fun x y H Q => rI0 (fun i j => .bl (decide (j ≤ i))) x y H Q ∨ ∃ i j, x = V.str i ∧ y = V.str j ∧ Q (V.bl (!decide (i.cps.toList < j.cps.toList))) H) := op_ge.or op_ge_str
theorem link_lt : LinkCmp X.K (fun x y H Q => rI0 (fun i j => .bl (decide (i < j))) x y H Q ∨ ∃ i j, x = V.str i ∧ y = V.str j ∧ Q (V.bl (decide (i.cps.toList < j.cps.toList))) H) fLt := link_cmp
theorem link_le : LinkCmp X.K (fun x y H Q => rI0 (fun i j => .bl (decide (i ≤ j))) x y H Q ∨ ∃ i j, x = V.str i ∧ y = V.str j ∧ Q (V.bl (!decide (j.cps.toList < i.cps.toList))) H) fLe := link_cmp (h := fun i j => !decide (j < i))
theorem link_gt : LinkCmp X.K (fun x y H Q => rI0 (fun i j => .bl (decide (j < i))) x y H Q ∨ ∃ i j, x = V.str i ∧ y = V.str j ∧ Q (V.bl (decide (j.cps.toList < i.cps.toList))) H) fGt := link_cmp (g := fun i j => decide (j < i)) (h := fun i j => decide (j < i))
theorem link_ge : LinkCmp X.K (fun x y H Q => rI0 (fun i j => .bl (decide (j ≤ i))) x y H Q ∨ ∃ i j, x = V.str i ∧ y = V.str j ∧ Q (V.bl (!decide (i.cps.toList < j.cps.toList))) H) fGe := link_cmp (g := fun i j => decide (j ≤ i)) (h := fun i j => !decide (i < j))
/-- is, is not of bools -/
def fIsB (x y : D) (Q : Bool → Prop) : Prop := match x, y with
  | .bool i, .bool j => Q (decide (i = j))
  | _, _ => False
def fIsNotB (x y : D) (Q : Bool → Prop) : Prop := match x, y with
  | .bool i, .bool j => Q (!decide (i = j))
  | _, _ => False
/-! ### data that can be compared and shown -/
def keyPy : Key → PyData
  | .inl i => .int i
  | .inr x => .str x
mutual
def D.py : D → PyData
  | .none => .none
  | .bool b => .bool b
  | .int i => .int i
  | .str s => .str s
  | .list xs => .list (D.pys xs)
  | .tup xs => .tuple (D.pys xs)
  | .dict kvs => .dict (D.pyKs kvs)
  | .obj _ _ => .none
  | .dice => .none
  | .script _ => .none
  | .tdict _ => .none
  | .opq _ _ => .none
  | .ty _ => .none
  | .fn _ => .none
  | .exc _ _ _ _ _ => .none
  | .sob _ _ => .none
def D.pys : List D → List PyData
  | [] => []
  | x :: xs => D.py x :: D.pys xs
def D.pyKs : List (Key × D) → List (PyData × PyData)
  | [] => []
  | (k, x) :: xs => (keyPy k, D.py x) :: D.pyKs xs
end
mutual
def D.isPy : D → Bool
  | .none => true
  | .bool _ => true
  | .int _ => true
  | .str _ => true
  | .list xs => D.arePy xs
  | .tup xs => D.arePy xs
  | .dict kvs => D.areKs kvs
  | .obj _ _ => false
  | .dice => false
  | .script _ => false
  | .tdict _ => false
  | .opq _ _ => false
  | .ty _ => false
  | .fn _ => false
  | .exc _ _ _ _ _ => false
  | .sob _ _ => false
def D.arePy : List D → Bool
  | [] => true
  | x :: xs => D.isPy x && D.arePy xs
def D.areKs : List (Key × D) → Bool
  | [] => true
  | (_, x) :: xs => D.isPy x && D.areKs xs
end
mutual
theorem Rep.dp {K : PySem.W.Frag} {H : Hp} : ∀ {v : V} {d : D}, Rep K H v d → d.isPy = true → d.py.canLay0 = true → Dp K H v d.py
  | _, _, .non, _, _ => .non
  | _, _, .bool b, _, _ => .bl b
  | _, _, .int i, _, _ => .int i
  | _, _, .str x, _, _ => .str x
  | _, _, .list h _ r, p, q => .lst (.of h) (Reps.dp r (by simpa [D.isPy] using p) (by simpa [D.py, PyData.canLay0] using q))
  | _, _, .tup h _ r, p, q => .tup h (Reps.dp r (by simpa [D.isPy] using p) (by simpa [D.py, PyData.canLay0] using q))
  | _, _, .dict _ _ _, _, q => by simp [D.py, PyData.canLay0] at q
  | _, _, .obj _ _ _, p, _ => by simp [D.isPy] at p
  | _, _, .dice _, p, _ => by simp [D.isPy] at p
  | _, _, .script _ _, p, _ => by simp [D.isPy] at p
  | _, _, .tdict _ _ _ _, p, _ => by simp [D.isPy] at p
  | _, _, .opq _, p, _ => by simp [D.isPy] at p
  | _, _, .ty _, p, _ => by simp [D.isPy] at p
  | _, _, .fn _, p, _ => by simp [D.isPy] at p
  | _, _, .exc _ _ _, p, _ => by simp [D.isPy] at p
  | _, _, .sob _ _ _ _, p, _ => by simp [D.isPy] at p
theorem Reps.dp {K : PySem.W.Frag} {H : Hp} : ∀ {vs : List V} {ds : List D}, Reps K H vs ds → D.arePy ds = true → PyData.canLayAll0 (D.pys ds) = true → DpAll K H vs (D.pys ds)
  | _, _, .nil, _, _ => .nil
  | _, _, .cons r t, p, q => by
    have p' : _ = true ∧ _ = true := (by simpa [D.arePy] using p : D.isPy _ = true ∧ D.arePy _ = true)
    have q' : _ = true ∧ _ = true := (by simpa [D.pys, PyData.canLayAll0] using q : PyData.canLay0 (D.py _) = true ∧ PyData.canLayAll0 (D.pys _) = true)
    exact .cons (Rep.dp r p'.1 q'.1) (Reps.dp t p'.2 q'.2)
end
/-! what stands in the heap, read as data -/
section
variable {X : Cx} {pins : List (Addr × Obj)} {σ : L2.St} {H : Hp} {s : Shared}
theorem RepKs.keys0 {K : PySem.W.Frag} {H : Hp} : ∀ {vs : List (Key × V)} {ds : List (Key × D)}, RepKs K H vs ds → vs.map (·.1) = ds.map (·.1)
  | _, _, .nil => rfl
  | _, _, .cons _ r => by simp only [List.map_cons, RepKs.keys0 r]
end
def D.fine (d : D) : Bool := d.isPy && SeqAt.shaped d.py
def eqD (x y : D) : Bool := PyData.eqv x.py y.py
def fEq (x y : D) (Q : Bool → Prop) : Prop := x.fine = true ∧ y.fine = true ∧ Q (eqD x y)
def fNe (x y : D) (Q : Bool → Prop) : Prop := x.fine = true ∧ y.fine = true ∧ Q (!eqD x y)
theorem fine_and {d : D} (h : d.fine = true) : d.isPy = true ∧ SeqAt.shaped d.py = true := by simpa [D.fine] using h
theorem fine_lay {d : D} (h : d.fine = true) : d.py.canLay0 = true := by
  have := (fine_and h).2
  unfold SeqAt.shaped at this
  exact (Bool.and_eq_true_iff.mp this).1
theorem fine_nodic {d : D} (h : d.fine = true) : isDic d = false := by
  have := fine_lay h
  have hp := (fine_and h).1
  cases d with
  | dict _ => simp [D.py, PyData.canLay0] at this
  | tdict _ => simp [D.isPy] at hp
  | _ => rfl
theorem RV.dpf {K : PySem.W.Frag} {fo ls : List Addr} {H : Hp} {b : Bool} {v : V} {d : D} (r : RV K fo ls H b v d) (h : d.fine = true) : Dp K H v d.py := (r.rep (fine_nodic h)).dp (fine_and h).1 (fine_lay h)
theorem link_eq : LinkCmp X.K (rEqD X.K) fEq := by
  intro fo ls H x y dx dy P Q rx ry ⟨h1, h2, h⟩ q
  exact ⟨_, _, rx.dpf h1, ry.dpf h2, (fine_and h1).2, (fine_and h2).2, q _ h⟩
theorem link_ne : LinkCmp X.K (rNeD X.K) fNe := by
  intro fo ls H x y dx dy P Q rx ry ⟨h1, h2, h⟩ q
  exact ⟨_, _, rx.dpf h1, ry.dpf h2, (fine_and h1).2, (fine_and h2).2, q _ h⟩
/-- in: a sign in a text, an item in a list or a tuple -/
def inD (x : D) (ds : List D) : Bool := ds.any fun z => eqD z x
theorem pys_any {x : D} : ∀ ds : List D, ((D.pys ds).any fun z => PyData.eqv z x.py) = inD x ds
  | [] => by simp [D.pys, inD]
  | d :: ds => by
    have := pys_any (x := x) ds
    unfold inD at this ⊢
    simp only [D.pys, List.any_cons, this]
    rfl
/-! ### built-ins -/
def fLen (ds : List D) (Q : D → Prop) : Prop := match ds with
  | [.list xs] => Q (.int xs.length)
  | [.tup xs] => Q (.int xs.length)
  | [.script ns] => Q (.int ns.length)
  | [.str z] => z.length ≤ sizeLine ∧ Q (.int z.length)
  | _ => False
theorem link_len : LinkB X.K (fun xs H Q => ∃ x n, xs = [x] ∧ LenV X.K x H n ∧ Q (.int n) H) fLen := by
  intro fo ls H vs ds P Q ht r h q
  unfold fLen at h
  split at h
  · obtain ⟨v, rfl, rr⟩ := r.one
    obtain ⟨a, xs, rfl, h1, h2, h3⟩ := rr.list
    exact ⟨_, _, rfl, .inl ⟨xs, .of h1, h3.length.symm⟩, q _ _ H h (Same.refl H) (.int _)⟩
  · obtain ⟨v, rfl, rr⟩ := r.one
    obtain ⟨a, xs, rfl, h1, h2, h3⟩ := rr.tup
    exact ⟨_, _, rfl, .inr ⟨xs, h1, h3.length.symm⟩, q _ _ H h (Same.refl H) (.int _)⟩
  · obtain ⟨v, rfl, rr⟩ := r.one
    cases rr with
    | cl r =>
      cases r with
      | script h1 h2 => exact ⟨_, _, rfl, .inl ⟨_, sub_le.seq h1, by rw [List.length_map]⟩, q _ _ H h (Same.refl H) (.int _)⟩
  · obtain ⟨v, rfl, rr⟩ := r.one
    rw [rr.isStr]
    exact ⟨_, _, rfl, ⟨h.1, rfl⟩, q _ _ H h.2 (Same.refl H) (.int _)⟩
  · exact h.elim
def fAbs (ds : List D) (Q : D → Prop) : Prop := ∃ i : Int, ds = [.int i] ∧ Q (.int (if i < 0 then -i else i))
theorem link_abs : LinkB X.K (fun xs H Q => ∃ i, xs = [V.int i] ∧ Q (V.int (if i < 0 then -i else i)) H) fAbs := by
  intro fo ls H vs ds P Q ht r ⟨i, e, h⟩ q
  subst e
  obtain ⟨v, rfl, rr⟩ := r.one
  exact ⟨i, by rw [rr.isInt], q _ _ H h (Same.refl H) (.int _)⟩
def fMax2 (ds : List D) (Q : D → Prop) : Prop := ∃ i j : Int, ds = [.int i, .int j] ∧ Q (.int (if j > i then j else i))
theorem link_max2 : LinkB X.K (fun xs H Q => ∃ i j, xs = [V.int i, V.int j] ∧ Q (V.int (if j > i then j else i)) H) fMax2 := by
  intro fo ls H vs ds P Q ht r ⟨i, j, e, h⟩ q
  subst e
  obtain ⟨v, v', rfl, r1, r2⟩ := r.two
  exact ⟨i, j, by rw [r1.isInt, r2.isInt], q _ _ H h (Same.refl H) (.int _)⟩
def fMin2 (ds : List D) (Q : D → Prop) : Prop := ∃ i j : Int, ds = [.int i, .int j] ∧ Q (.int (if j < i then j else i))
theorem link_min2 : LinkB X.K (fun xs H Q => ∃ i j, xs = [V.int i, V.int j] ∧ Q (V.int (if j < i then j else i)) H) fMin2 := by
  intro fo ls H vs ds P Q ht r ⟨i, j, e, h⟩ q
  subst e
  obtain ⟨v, v', rfl, r1, r2⟩ := r.two
  exact ⟨i, j, by rw [r1.isInt, r2.isInt], q _ _ H h (Same.refl H) (.int _)⟩
def fInt (ds : List D) (Q : D → Prop) : Prop := match ds with
  | [.int i] => Q (.int i)
  | [.bool k] => Q (.int (if k then 1 else 0))
  | _ => False
theorem link_int : LinkB X.K (fun xs H Q => (∃ i, xs = [V.int i] ∧ Q (.int i) H) ∨ ∃ k, xs = [V.bl k] ∧ Q (V.int (if k then 1 else 0)) H) fInt := by
  intro fo ls H vs ds P Q ht r h q
  unfold fInt at h
  split at h
  · obtain ⟨v, rfl, rr⟩ := r.one
    exact .inl ⟨_, by rw [rr.isInt], q _ _ H h (Same.refl H) (.int _)⟩
  · obtain ⟨v, rfl, rr⟩ := r.one
    exact .inr ⟨_, by rw [rr.isBool], q _ _ H h (Same.refl H) (.int _)⟩
  · exact h.elim
def fStr (ds : List D) (Q : D → Prop) : Prop := ∃ i : Int, ds = [.int i] ∧ i.natAbs.log2 < 1920 ∧ Q (.str (toString i))
def fSum (ds : List D) (Q : D → Prop) : Prop := ∃ ns : List Int, ds = [.list (ns.map .int)] ∧ Q (.int ns.sum)
theorem link_sum : LinkB X.K (rSum X.K) fSum := by
  intro fo ls H vs ds P Q ht r ⟨ns, e, h⟩ q
  subst e
  obtain ⟨v, rfl, rr⟩ := r.one
  obtain ⟨a, xs, rfl, h1, h2, h3⟩ := rr.list
  exact ⟨a, ns, rfl, by rw [← h3.of_ints]; exact .of h1, q _ _ H h (Same.refl H) (.int _)⟩
def fAll (ds : List D) (Q : D → Prop) : Prop := ∃ ns : List Bool, ds = [.list (ns.map .bool)] ∧ Q (.bool (ns.all id))
theorem link_all : LinkB X.K (rAll X.K) fAll := by
  intro fo ls H vs ds P Q ht r ⟨ns, e, h⟩ q
  subst e
  obtain ⟨v, rfl, rr⟩ := r.one
  obtain ⟨a, xs, rfl, h1, h2, h3⟩ := rr.list
  exact ⟨a, ns, rfl, by rw [← h3.of_bools]; exact .of h1, q _ _ H h (Same.refl H) (.bool _)⟩
/-- tuple(xs), list(xs) -/
def fTuple (ds : List D) (Q : D → Prop) : Prop := match ds with
  | [.list xs] => Q (.tup xs)
  | [.tup xs] => Q (.tup xs)
  | _ => False
theorem link_tuple : LinkB X.K (fun xs H Q => ∃ p ys, xs = [V.ref p] ∧ ((SqL X.K H p ys ∧ ∀ l, H l = none → Q (V.ref l) (upd H l (.tup ys))) ∨ (SqT X.K H p ys ∧ Q (.ref p) H))) fTuple := by
  intro fo ls H vs ds P Q ht r h q
  unfold fTuple at h
  split at h
  · obtain ⟨v, rfl, rr⟩ := r.one
    obtain ⟨a, xs, rfl, h1, h2, h3⟩ := rr.list
    exact ⟨a, xs, rfl, .inl ⟨.of h1, fun l hl => q _ _ _ h (same_upd hl) (new_tup ht hl h2 h3)⟩⟩
  · obtain ⟨v, rfl, rr⟩ := r.one
    obtain ⟨a, xs, e, h1, h2, h3⟩ := rr.tup
    subst e
    cases rr with
    | cl r => exact ⟨a, xs, rfl, .inr ⟨h1, q _ _ H h (Same.refl H) r⟩⟩
  · exact h.elim
def fList (ds : List D) (Q : D → Prop) : Prop := match ds with
  | [.list xs] => Q (.list xs)
  | [.tup xs] => Q (.list xs)
  | _ => False
theorem link_list : LinkF X.K (fun xs H Q => ∃ p ys, xs = [V.ref p] ∧ (SqL X.K H p ys ∨ SqT X.K H p ys) ∧ ∀ l, H l = none → Q (V.ref l) (upd H l (.lst ys))) fList := by
  intro fo ls H vs ds P Q ht r h q
  unfold fList at h
  split at h
  · obtain ⟨v, rfl, rr⟩ := r.one
    obtain ⟨a, xs, rfl, h1, h2, h3⟩ := rr.list
    exact ⟨a, xs, rfl, .inl (.of h1), fun l hl => q _ _ _ h hl (same_upd hl) (.l upd_same h2 (h3.mono (sub_fresh hl (same_upd hl))))⟩
  · obtain ⟨v, rfl, rr⟩ := r.one
    obtain ⟨a, xs, rfl, h1, h2, h3⟩ := rr.tup
    exact ⟨a, xs, rfl, .inr h1, fun l hl => q _ _ _ h hl (same_upd hl) (.l upd_same h2 (h3.mono (sub_fresh hl (same_upd hl))))⟩
  · exact h.elim
end
end DL
set_option Elab.async false
set_option linter.all false
set_option maxRecDepth 100000
set_option maxHeartbeats 4000000
/-! DL7: in, repr, isinstance, join, sorted, slices; the dice; a list's items stored. -/
namespace DL
open PySem PySem.Spec PyProof.Rows L2
variable [TabsC]
theorem bt_len : bootBuiltins "len" = some (.builtin "len") := by decide +kernel
theorem bt_abs : bootBuiltins "abs" = some (.builtin "abs") := by decide +kernel
theorem bt_max : bootBuiltins "max" = some (.builtin "max") := by decide +kernel
theorem bt_min : bootBuiltins "min" = some (.builtin "min") := by decide +kernel
theorem bt_sum : bootBuiltins "sum" = some (.builtin "sum") := by decide +kernel
theorem bt_all : bootBuiltins "all" = some (.builtin "all") := by decide +kernel
theorem bt_sorted : bootBuiltins "sorted" = some (.builtin "sorted") := by decide +kernel
theorem bt_int : bootBuiltins "int" = some (.type "int") := by decide +kernel
theorem bt_bool : bootBuiltins "bool" = some (.type "bool") := by decide +kernel
theorem bt_tuple : bootBuiltins "tuple" = some (.type "tuple") := by decide +kernel
theorem bt_list : bootBuiltins "list" = some (.type "list") := by decide +kernel
theorem bt_dict : bootBuiltins "dict" = some (.type "dict") := by decide +kernel
theorem bt_set : bootBuiltins "set" = some (.type "set") := by decide +kernel
section
variable {X : Cx} {W : WX} {a b c e o : Expr} {es : List Expr} {ba bb : Bool} {ma mb : TM} {la : LM} {pos p : Pos} {x : Str}
/-! ### in -/
def rInX (K : PySem.W.Frag) (neg : Bool) : R2 := fun x y H Q => (∃ (c : Nat) (z : Str), x = .str ⟨#[c]⟩ ∧ y = .str z ∧ Q (.bl (neg ^^ decide (c ∈ z.cps.toList))) H) ∨ ((∃ d ds, Dp K H x d ∧ Dp K H y (.list ds) ∧ SeqAt.shaped d = true ∧ SeqAt.shaped (.list ds) = true ∧ Q (.bl (neg ^^ ds.any fun z => PyData.eqv z d)) H) ∨
  ∃ p xs, y = .ref p ∧ (SqL K H p xs ∨ SqT K H p xs) ∧ flatV x = true ∧ xs.all flatV = true ∧ Q (.bl (neg ^^ inV x xs)) H)
theorem op_notInX (hu : X.A.units + 65 < cLine) : OpR X (compareOp .NotIn) (rInX X.K true) := by
  intro pins s σ H x y v u Q I rx ry h
  rcases h with ⟨c, z, h1, h2, q⟩ | ⟨d, ds, h1, h2, h3, h4, q⟩ | ⟨p, xs, h1, h2, h3, h4, q⟩
  · exact op_notIn_sign pins s σ H x y v u Q I rx ry ⟨c, z, h1, h2, by simpa using q⟩
  · exact op_notInD hu pins s σ H x y v u Q I rx ry ⟨d, ds, h1, h2, h3, h4, by simpa using q⟩
  · exact op_notIn_seq pins s σ H x y v u Q I rx ry ⟨p, xs, h1, h2, h3, h4, by simpa using q⟩
def fInX (neg : Bool) (x y : D) (Q : Bool → Prop) : Prop := match y with
  | .str z => ∃ c, x = .str ⟨#[c]⟩ ∧ Q (neg ^^ decide (c ∈ z.cps.toList))
  | .list ds => x.fine = true ∧ (D.list ds).fine = true ∧ Q (neg ^^ inD x ds)
  | .tup ds => ∃ (i : Int) (ns : List Int), x = .int i ∧ ds = ns.map .int ∧ Q (neg ^^ decide (i ∈ ns))
  | _ => False
theorem inV_cons (x y : V) (xs : List V) : inV x (y :: xs) = (eqV y x || inV x xs) := by unfold inV; rw [List.any_cons]
theorem inV_ints (i : Int) : ∀ ns : List Int, inV (.int i) (ns.map V.int) = decide (i ∈ ns)
  | [] => by simp [inV]
  | n :: ns => by
    rw [List.map_cons, inV_cons, inV_ints i ns, show eqV (.int n) (.int i) = (n == i) from rfl]
    by_cases e : n = i
    · simp [e]
    · have e' : ¬ i = n := fun z => e z.symm
      simp [e, e']
theorem flat_ints : ∀ ns : List Int, (ns.map V.int).all flatV = true
  | [] => rfl
  | n :: ns => by simp only [List.map_cons, List.all_cons, flat_ints ns]; rfl
theorem link_inX {neg : Bool} : LinkCmp X.K (rInX X.K neg) (fInX neg) := by
  intro fo ls H x y dx dy P Q rx ry h q
  unfold fInX at h
  split at h
  · obtain ⟨c, e, h⟩ := h
    subst e
    exact .inl ⟨c, _, rx.isStr, ry.isStr, q _ h⟩
  · obtain ⟨h1, h2, h⟩ := h
    rename_i ds
    refine .inr (.inl ⟨_, D.pys ds, rx.dpf h1, ?_, (fine_and h1).2, ?_, ?_⟩)
    · have := ry.dpf h2
      simpa only [D.py] using this
    · have := (fine_and h2).2
      simpa only [D.py] using this
    · rw [pys_any]
      exact q _ h
  · obtain ⟨i, ns, e1, e2, h⟩ := h
    subst e1 e2
    obtain ⟨a, xs, rfl, h1, h2, h3⟩ := ry.tup
    rw [h3.of_ints] at h1
    refine .inr (.inr ⟨a, _, rfl, .inr h1, by rw [rx.isInt]; rfl, flat_ints ns, ?_⟩)
    rw [rx.isInt, inV_ints]
    exact q _ h
  · exact h.elim
/-! ### repr -/
def fRepr (ds : List D) (Q : D → Prop) : Prop := ∃ d, ds = [d] ∧ d.isPy = true ∧ d.py.showable = true ∧ d.py.depth ≤ 60 ∧ d.py.shown.length ≤ sizeLine ∧ Q (.str d.py.shown)
/-- repr of what is plain -/
def mRepr (ma : TM) : TM := fun δ Q E => ma δ (fun d => fRepr [d] Q) E
/-! ### isinstance -/
def D.tyn : D → Option String
  | .none => some "NoneType"
  | .bool _ => some "bool"
  | .int _ => some "int"
  | .str _ => some "str"
  | .list _ => some "list"
  | .tup _ => some "tuple"
  | .dict _ => some "dict"
  | _ => Option.none
theorem tyx_of {K : PySem.W.Frag} {H : Hp} {v : V} {d : D} {t : String} (r : Rep K H v d) (h : d.tyn = some t) : TyX K H v (.type t) := by
  cases r with
  | non => cases h; exact .base .non
  | bool b => cases h; exact .base (.bl b)
  | int i => cases h; exact .base (.int i)
  | str x => cases h; exact .base (.str x)
  | list h1 _ _ => cases h; exact .base (.lst h1)
  | tup h1 _ _ =>
    cases h
    rcases h1 with (h1 | ⟨o, h1⟩) | ⟨o, its, n, h1, h2, _⟩
    · exact .base (.tup h1)
    · exact .fTuple h1
    · exact .kTuple h1 h2
  | dict h1 _ _ =>
    cases h
    exact .fDict h1
  | dice _ => cases h
  | obj _ _ _ => cases h
  | script _ _ => cases h
  | tdict _ _ _ _ => cases h
  | opq _ => cases h
  | ty _ => cases h
  | fn _ => cases h
  | exc _ _ _ => cases h
  | sob _ _ _ _ => cases h
theorem tyx_rv {K : PySem.W.Frag} {fo ls : List Addr} {H : Hp} {b : Bool} {v : V} {d : D} {t : String} (r : RV K fo ls H b v d) (h : d.tyn = some t) : TyX K H v (.type t) := by
  cases r with
  | cl r => exact tyx_of (r.mono sub_le) h
  | ml n a b c => cases h; exact .base (.lst a)
  | md n a b c => cases h; exact .base (.dK a)
  | mt n a b c => cases h
  | mo n a b c => cases h
/-! ### texts -/
def mJoin (ma mb : TM) : TM := fun δ Q E => ma δ (fun d => ∃ z, d = .str z ∧ mb δ (fun d' => ∃ ys : List Str, (d' = .list (ys.map .str) ∨ d' = .tup (ys.map .str)) ∧ (ys.map (·.length)).sum + ys.length * z.length ≤ 16777216 ∧ Q (.str (Txt.join z ys))) E) E
/-! ### sorted, of ints -/
/-! ### the dice -/
def mDice (ma : TM) : TM := fun δ Q E => ma δ (fun d => (∃ i j k : Int, d = .list [.int i, .int j, .int k]) ∧ Q .dice) E
theorem de_dice (h : DF X W e ma) : DE X W e false (mDice ma) := by
  refine ⟨fun pins s σ H Q I ⟨F, own, δ, P, EK, A, m, q⟩ => ?_⟩
  refine thn (h.run pins s σ H (fun v H1 => ∃ p i j k, v = .ref p ∧ H p = none ∧ Same H H1 ∧ H1 p = some (.lst [.int i, .int j, .int k]) ∧ P .dice) I ⟨F, own, δ, _, EK, A, m, fun d p H1 ⟨⟨i, j, k, ed⟩, pd⟩ hp s1 r1 => ?_⟩) fun u s1 ⟨v, H1, I1, rv, p, i, j, k, ev, hp, s01, h1, pd⟩ => ?_
  · subst ed
    cases r1 with
    | l h1 _ r1 =>
      have := Reps.of_ints (ns := [i, j, k]) r1
      subst this
      exact ⟨p, i, j, k, rfl, hp, s1, h1, pd⟩
  · subst ev
    obtain ⟨_, its, n, r, e⟩ := I1.hok p _ h1
    obtain ⟨t1, t2, t3, rfl⟩ : ∃ t1 t2 t3, its = [.int i t1, .int j t2, .int k t3] := by
      cases r with
      | cons a r => cases r with
        | cons b r => cases r with
          | cons c r =>
            cases r
            obtain ⟨t1, rfl⟩ := a
            obtain ⟨t2, rfl⟩ := b
            obtain ⟨t3, rfl⟩ := c
            exact ⟨t1, t2, t3, rfl⟩
    have J := Inv.retrack (o := diceO p) I1 (by rw [h1]; trivial) ⟨⟨i, j, k, t1, t2, t3, n, e⟩, ⟨_, e⟩, fun h1 h2 ⟨i, j, k, t, u, w, n, z⟩ f => ⟨i, j, k, t, u, w, n, f _ z⟩⟩
    have sn : Same H (upd H1 p (diceO p)) := Same.put s01 hp h1
    refine ⟨.ref p, _, J, rv, q .dice (.ref p) _ pd sn (.cl (.dice ?_))⟩
    rw [sub_out (new_out A hp)]
    exact upd_same
/-- within the roll: the dice as a list -/
theorem pss_dice {sts : List Stmt} {t : TS} (h : PSs X sts t) : PSs X sts (fun D σ H => ∃ q, H q = some (diceO q) ∧ ∀ i j k : Int, t { nx := fun _ _ => False, rt := fun v H' => ∃ i j k : Int, H' q = some (.lst [.int i, .int j, .int k]) ∧ D.rt v (upd H' q (diceO q)) } σ (upd H q (.lst [.int i, .int j, .int k]))) := by
  refine ⟨fun pins s σ H D I ⟨q, hq, ht⟩ => ?_⟩
  obtain ⟨⟨i, j, k, t1, t2, t3, n, e⟩, _, _⟩ := I.hok q _ hq
  have J : Inv X pins σ (upd H q (.lst [.int i, .int j, .int k])) s := Inv.retrack I (by rw [hq]; trivial) ⟨(by show 3 ≤ sizeLine; rw [sizeLine_eq]; decide), [.int i t1, .int j t2, .int k t3], n, .cons ⟨_, rfl⟩ (.cons ⟨_, rfl⟩ (.cons ⟨_, rfl⟩ .nil)), e⟩
  refine thn (h.run pins s σ _ _ J (ht i j k)) fun fl s1 hs => ?_
  cases fl with
  | next =>
    obtain ⟨_, _, _, z⟩ := hs
    exact z.elim
  | brk =>
    obtain ⟨_, _, _, z⟩ := hs
    exact z.elim
  | cont =>
    obtain ⟨_, _, _, z⟩ := hs
    exact z.elim
  | ret u =>
    obtain ⟨v, σ', H', I', rv, i', j', k', hq', hd⟩ := hs
    obtain ⟨_, its, n', r, e'⟩ := I'.hok q _ hq'
    obtain ⟨u1, u2, u3, rfl⟩ : ∃ u1 u2 u3, its = [.int i' u1, .int j' u2, .int k' u3] := by
      cases r with
      | cons a r => cases r with
        | cons b r => cases r with
          | cons c r =>
            cases r
            obtain ⟨t1, rfl⟩ := a
            obtain ⟨t2, rfl⟩ := b
            obtain ⟨t3, rfl⟩ := c
            exact ⟨t1, t2, t3, rfl⟩
    have J' := Inv.retrack (o := diceO q) I' (by rw [hq']; trivial) ⟨⟨i', j', k', u1, u2, u3, n', e'⟩, ⟨_, e'⟩, fun h1 h2 ⟨i, j, k, t, u, w, n, z⟩ f => ⟨i, j, k, t, u, w, n, f _ z⟩⟩
    exact ⟨v, σ', _, J', rv, hd⟩
def mRoll : FM := fun ds Q _ => ∃ n : Int, ds = [.dice, .int n] ∧ 0 < n ∧ n < 1073741824 ∧ ∀ r : Int, 0 ≤ r → r < n → Q (.int r)
end
end DL
set_option Elab.async false
set_option linter.all false
set_option maxRecDepth 100000
set_option maxHeartbeats 4000000
/-! DL8: the end of a law. -/
namespace DL
open PySem PySem.Spec PyProof.Rows L2
variable [TabsC]
/-- the law's script as data; the law gives True -/
def LawTrue (m : FM) : Prop := ∀ ns : List Int, ns.length ≤ 63 → m [.script ns] (fun d => d = .bool true) NoE
section
variable {P : Program} {w : World} {K : PySem.W.Frag} {mg mb : Str → Option Value} {k : Nat} {fa a : Addr} {m : FM} {s1 : Shared} {vs : List Value} {ns : List Int}
/-- the call, over an abstract heap H that tracks nothing but the script -/
theorem law_core (KX : K.In s1.heap) (hns : s1.heap.Ns mainGlobals mg) (hb : s1.heap.Ns builtinsNs mb) (hbb : ∀ x : Str, x ≠ "__name__" → mb x = bootBuiltins x) (hlim : s1.heap.NoLimit) (hg : s1.gens = #[]) (hT : TabsC.T = []) (hSM : ∃ mm, s1.heap.Ns sysModules mm)
    (ha : s1.heap.get? a = some { cls := .type "list", data := .seq vs.toArray }) (hr : Room k callerA) (F : ∀ base : Heap, K.In base → base.Ns mainGlobals mg → FnD P w K mg base k fa m)
    (hm : LawTrue m) (hl : ns.length ≤ 63) (H : Hp) (hO : Only H) (hS : SqL K H a (ns.map V.int)) (hok : HOk P w H s1.heap) (hA : ∀ b, H b ≠ none → b = a) (hK : H a ≠ none → K.lookup a = none) :
    codeAny (model P w) callerA (.call (.ref fa) ⟨[.ref a], []⟩) (fun r s' => r = .ok (.ret (.bool true)) ∧ OldK s1.heap s'.heap ∧ s'.os = s1.os ∧ AllBare s'.gens) s1 := by
  have out : ∀ {b : Addr}, (b ≠ a ∨ H b = none) → H b = none := fun {b} h => by
    cases q : H b with
    | none => rfl
    | some u =>
      have e : b = a := hA b (by rw [q]; simp)
      rcases h with h | h
      · exact absurd e h
      · rw [q] at h; cases h
  have dictK : ∀ {b : Addr} {mm : Str → Option Value}, s1.heap.Ns b mm → (hidT s1.heap H).Ns b mm := fun {b mm} hN => by
    obtain ⟨o, es, ep, e, d, r⟩ := hN
    refine ⟨o, es, ep, hidT_get e (out (.inl fun z => ?_)), d, r⟩
    rw [z, ha] at e
    cases e
    cases d
  have hKb : K.In (hidT s1.heap H) := fun b o e => hidT_get (KX b o e) (by
    cases q : H b with
    | none => rfl
    | some u =>
      have ea : b = a := hA b (by rw [q]; simp)
      rw [ea] at e q
      rw [hK (by rw [q]; simp)] at e
      cases e)
  obtain ⟨mc, l1, l2⟩ := hlim
  have env : Env0 P w K mg (hidT s1.heap H) callerA [] s1 H :=
    ⟨rfl, ⟨hKb, dictK hns, ⟨mb, dictK hb, hbb⟩, mc, dictK l1, l2⟩, fun b o e => of_hidT e, Nat.le_of_eq (hidT_size _ _), trivial, fun b hb => absurd hb (by simp [frs]), hok, .of_eq hg⟩
  have sp : spD K m [.ref a] H (fun v _ => v = .bl true) (fun _ _ _ => False) :=
    ⟨[], [.script ns], _, NoE, fun l h => absurd h (by simp), by rw [hT]; exact fun p hp => absurd hp (by simp), .cons (.script (by rw [show sub H [] = H from funext fun b => if_neg (by simp)]; exact hS) (Nat.le_trans hl (by rw [sizeLine_eq]; decide))) .nil, hm ns hl, fun d v H' e _ r => by
      subst e
      cases r
      rfl, fun _ _ _ _ e => e.elim⟩
  refine codeAny_mono ((F _ hKb (dictK hns)) callerA [] s1 H [.ref a] [.ref a] _ _ ⟨rfl, let ⟨mm, hm⟩ := hSM; ⟨mm, dictK hm⟩⟩ hr env (.cons rfl .nil) sp) fun r s' h => ?_
  match r, h with
  | .error e, h =>
    obtain ⟨_, _, _, _, _, _, _, _, _, _, _, _, z⟩ := h
    exact z.elim
  | .ok (.ret u), h =>
    obtain ⟨v, H', hos, hbare, hun, hok', hrel, hv⟩ := h
    have ev : v = .bl true := hv
    rw [ev] at hrel
    have eu : u = Value.bool true := hrel
    rw [eu]
    refine ⟨rfl, OldK.of_keep fun b o e => ?_, hos, hbare⟩
    rcases hO b with z | ⟨ob, xs, z⟩
    · exact hun.keep b o e z (by simp [frs]) (by simp)
    · have g1 := (hok b _ z).1
      have g2 := (hok' b _ (hun.frzs b ob _ z)).1
      rw [e] at g1
      cases g1
      exact g2
theorem law_callD (KX : K.In s1.heap) (hns : s1.heap.Ns mainGlobals mg) (hb : s1.heap.Ns builtinsNs mb) (hbb : ∀ x : Str, x ≠ "__name__" → mb x = bootBuiltins x) (hlim : s1.heap.NoLimit) (hg : s1.gens = #[]) (hT : TabsC.T = []) (hSM : ∃ mm, s1.heap.Ns sysModules mm)
    (ha : s1.heap.get? a = some { cls := .type "list", data := .seq vs.toArray }) (hi : IntsAre vs ns) (hr : Room k callerA) (F : ∀ base : Heap, K.In base → base.Ns mainGlobals mg → FnD P w K mg base k fa m)
    (hm : LawTrue m) (hl : ns.length ≤ 63) :
    codeAny (model P w) callerA (.call (.ref fa) ⟨[.ref a], []⟩) (fun r s' => r = .ok (.ret (.bool true)) ∧ OldK s1.heap s'.heap ∧ s'.os = s1.os ∧ AllBare s'.gens) s1 := by
  have hz : ns.length ≤ sizeLine := Nat.le_trans hl (by rw [sizeLine_eq]; decide)
  cases hk : K.lookup a with
  | some o =>
    have e := KX a o hk
    rw [ha] at e
    cases e
    exact law_core KX hns hb hbb hlim hg hT hSM ha hr F hm hl (fun _ => none) (fun _ => .inl rfl) (.inr ⟨_, vs.toArray, _, hk, rfl, rfl, rfl, (by rw [List.size_toArray, hi.length]; exact hz), by simpa using vals_of_ints hi⟩) (fun b u z => nomatch z) (fun b z => absurd rfl z) fun z => absurd rfl z
  | none =>
    have at_a : (fun b : Addr => if b = a then some (HO.frz { cls := .type "list", data := .seq vs.toArray } (.lst (ns.map V.int))) else none) a = some (HO.frz { cls := .type "list", data := .seq vs.toArray } (.lst (ns.map V.int))) := if_pos rfl
    refine law_core KX hns hb hbb hlim hg hT hSM ha hr F hm hl (fun b => if b = a then some (HO.frz { cls := .type "list", data := .seq vs.toArray } (.lst (ns.map V.int))) else none) (fun b => ?_) (.inl (.inr ⟨_, at_a⟩)) (fun b u z => ?_) (fun b z => ?_) fun _ => hk
    · by_cases e : b = a
      · exact .inr ⟨_, _, if_pos e⟩
      · exact .inl (if_neg e)
    · by_cases e : b = a
      · have z := (if_pos e).symm.trans z
        cases z
        rw [e]
        exact ⟨ha, (by rw [List.length_map]; exact hz), vs, _, vals_of_ints hi, ha⟩
      · have z := (if_neg e).symm.trans z
        cases z
    · by_cases e : b = a
      · exact e
      · exact absurd (if_neg e) z
end
end DL
set_option Elab.async false
set_option linter.all false
set_option maxRecDepth 100000
set_option maxHeartbeats 4000000
/-! DL9: more forms: comprehensions stored, two names at once, displays of dicts, slices, zip, tuple(range). -/
namespace DL
open PySem PySem.Spec PyProof.Rows L2
variable [TabsC]
theorem units65 {A : Around} {k : Nat} (hr : Room k A) : A.units + 65 < cLine := by have := hr.un; omega
section
variable {X : Cx} {W : WX} {a b c e e2 o : Expr} {es : List Expr} {ba bb : Bool} {ma mb : TM} {la : LM} {pos p : Pos} {x y : Str} {k : Nat} {f : Addr} {fd : FuncData} {ps : List Str} {m : FM}
/-! ### name = [..] -/
/-- tf of lists alone -/
def tfl (K : PySem.W.Frag) (W : WX) (m : TM) : TE := fun σ H Q => ∃ (F : Fm) (own : List Addr) (δ : List DV) (P : D → Prop) (EK : Er → Prop), At K W σ H F own δ EK ∧ m δ P EK ∧
  ∀ ds p H', P (.list ds) → H p = none → Same H H' → FV K (p :: (F.ls0 ++ own)) H' p (.list ds) → Q (.ref p) H'
/-- the reading of a comprehension, for whatever follows it -/
theorem lc_reading {tg it : Expr} {own : List (Str × Nat)} {mi : LM} {g : GM} {mt : BM} {me : TM} {σ : L2.St} {H : Hp} {Q : VK} {K : PySem.W.Frag} (h : tfl K W (mComp (own.map (·.2)) mi g mt me) σ H Q) :
    tLc (ti K W ba mi) (tgw K (List.map (fun x : Str × Nat => x.2) own) g) (tb K NoW mt) (tm K NoW false me) (own.map (·.2)) σ H Q := by
  obtain ⟨F, ow, δ, P, EK, A, m, q⟩ := h
  refine ⟨F, ow, δ, _, EK, A, m, fun ds J H1 hds s1 ok => ?_⟩
  intro Dn hD
  have E1 := A.env.grow s1
  have nodn : ∀ (j : Nat) (dj : D), (wipeD δ (own.map (·.2)))[j]? = some (.m dj) → (L2.wipe σ (own.map (·.2)))[j]? ≠ some (some (.ref Dn)) := fun j dj h z => by
    obtain ⟨s, e1, a, e2, ha, _⟩ := (E1.wipe (own.map (·.2))).slot j _ h
    rw [e1] at z; cases z
    cases e2
    obtain ⟨o, q, nn⟩ := E1.trk Dn (List.mem_append_right _ ha)
    rw [hD] at q; cases q
  refine ⟨fun i n H => n = ds.length - i ∧ i ≤ ds.length ∧ Same H1 H ∧ EnvD K F (Dn :: ow) (L2.wipe σ (own.map (·.2))) (wipeD δ (own.map (·.2))) H ∧ ∃ xs acc, H Dn = some (.lst xs) ∧ xs.length ≤ i ∧ Reps K (sub H (F.ls0 ++ (Dn :: ow))) xs acc ∧ compL g mt me (wipeD δ (own.map (·.2))) (ds.drop i) acc P,
    ⟨_, rfl, Nat.zero_le _, same_upd hD, (E1.wipe _).grab hD (same_upd hD) ⟨_, upd_same, plain_of⟩, [], [], upd_same, Nat.le_refl _, .nil, hds⟩, ?_⟩
  rintro i n H2 ⟨rfl, hi2, s2, E2, xs, acc, hx, hl, rx, q2⟩
  have sg : Grow (flo ba H1 (F.ls0 ++ ow)) H2 := flo_le.trans s2.ob
  have sb : Grow (sub H1 (F.ls0 ++ ow)) (sub H2 (F.ls0 ++ (Dn :: ow))) := by
    rw [← sub_congr (H := H2) (mem_swap (ls := F.ls0) (own := ow) (p := Dn))]
    exact sub_fresh hD s2
  by_cases hlt : i < ds.length
  · refine .inr ⟨ok.go i H2 sg hlt, fun H' => Same H1 H' ∧ EnvD K F (Dn :: ow) (L2.wipe σ (own.map (·.2))) (wipeD δ (own.map (·.2))) H' ∧ ∃ xs acc, H' Dn = some (.lst xs) ∧ xs.length ≤ i + 1 ∧ Reps K (sub H' (F.ls0 ++ (Dn :: ow))) xs acc ∧ compL g mt me (wipeD δ (own.map (·.2))) (ds.drop (i + 1)) acc P,
      fun H' ⟨s', E', z⟩ => ⟨_, (by omega), rfl, hlt, s', E', z⟩, fun x H3 y => ?_⟩
    obtain ⟨d, ed, s3, r3⟩ := ok.yld i H2 x H3 (F.ls0 ++ (Dn :: ow)) sg sb E2.trk hlt y
    rw [drop_get ed] at q2
    have hz : xs.length < sizeLine := Nat.lt_of_le_of_lt hl (Nat.lt_of_lt_of_le hlt ok.sz)
    refine ⟨F, Dn :: ow, _, d, _, E2.grow s3, r3, q2, fun σ4 δ4 E4 w4 q4 => ⟨by rw [w4]; exact wipe_wipe, F, Dn :: ow, δ4, _, NoE, ⟨E4, noPass⟩, q4, fun b H5 p5 s5 => ?_⟩⟩
    cases b with
    | false =>
      have p5' : compL g mt me (wipeD δ (own.map (·.2))) (ds.drop (i + 1)) acc P := by simpa using p5
      exact iteF ⟨(s2.trans s3).trans s5, E2.grow (s3.trans s5), xs, acc, s5 _ _ (s3 _ _ hx), Nat.le_succ_of_le hl, rx.mono (sub_same (s3.trans s5)), p5'⟩
    | true =>
      refine iteT ⟨F, Dn :: ow, δ4, _, NoE, ⟨E4.grow s5, noPass⟩, (by simpa using p5), fun yd v H6 p6 s6 r6 => ?_⟩
      have hx6 := s6 _ _ (s5 _ _ (s3 _ _ hx))
      have es : sub (upd H6 Dn (.lst (xs ++ [v]))) (F.ls0 ++ (Dn :: ow)) = sub H6 (F.ls0 ++ (Dn :: ow)) := sub_upd (List.mem_append_right _ List.mem_cons_self)
      have sn : Same H1 (upd H6 Dn (.lst (xs ++ [v]))) := Same.put (((s2.trans s3).trans s5).trans s6) hD hx6
      refine ⟨xs, hx6, hz, sn, (E2.grow ((s3.trans s5).trans s6)).poke List.mem_cons_self hx6 nodn, xs ++ [v], acc ++ [yd], upd_same, ?_, ?_, p6⟩
      · rw [List.length_append, List.length_singleton]; omega
      · rw [es]
        exact (rx.mono (sub_same ((s3.trans s5).trans s6))).append (.cons r6.clean .nil)
  · have e : i = ds.length := by omega
    subst e
    rw [List.drop_length] at q2
    refine .inl ⟨ok.stop _ H2 sg rfl, q _ Dn H2 q2 (s1.free hD) (s1.trans s2) (.l hx (Nat.le_trans hl ok.sz) ?_)⟩
    rw [sub_congr (H := H2) (mem_swap (ls := F.ls0) (own := ow) (p := Dn))]
    exact rx
theorem ds_setLc (i : Nat) {elt tg it : Expr} {ifs : List Expr} {scope : Scope} {own : List (Str × Nat)} {mi : LM} {g : GM} {mt : BM} {me : TM} {py spos : Pos} (hc : X.calm = true) (hN : X.N.Nodup) (hi : DI X W tg it ba mi) (ok : BlkOk X.N X.env.scope scope own)
    (hg : ∀ (s : Shared) (H : Hp) (C : Addr) (cl : List (Str × Addr)) (fp : List Addr), DGw (X.blk s H scope (compEnvC scope cl C X.env) fp) (own.map (·.2)) tg g) (ht : ∀ (s : Shared) (H : Hp) (C : Addr) (cl : List (Str × Addr)) (fp : List Addr), DTs (X.blk s H scope (compEnvC scope cl C X.env) fp) NoW ifs mt)
    (he : ∀ (s : Shared) (H : Hp) (C : Addr) (cl : List (Str × Addr)) (fp : List Addr), DE (X.blk s H scope (compEnvC scope cl C X.env) fp) NoW elt false me) (hs : ∀ x, foldedSetIterable it X.env x = pure x := by intro _; rfl)
    (hy : X.N[i]? = some y := by rfl) (hyl : X.env.scope.names.lookup y = some .local := by rfl) (hsw : swapsWith (.ListComp elt [⟨tg, it, ifs, 0⟩] scope pos) (some (.Name y py)) spos.line X.env = pure true := by exact sw_true rfl rfl rfl (by decide +kernel)) :
    DS X W (.Assign [.Name y py] (.ListComp elt [⟨tg, it, ifs, 0⟩] scope pos) spos) (sSet i (mComp (own.map (·.2)) mi g mt me)) :=
  PS.imp (ps_setLc (g := tgw X.K (List.map (fun x : Str × Nat => x.2) own) g) (tt := tb X.K NoW mt) (te := tm X.K NoW false me) hc hN hy hyl hsw hi ok hg ht he hs) fun D σ H ⟨F, ow, δ, k, E, h, L⟩ =>
    lc_reading (tg := tg) (it := it) ⟨F, ow, δ, _, _, L.at E, h, fun d p H' pd hp s r => L.nx _ H' ow _ ((E.grow s).set i (r.clean (new_out (L.at E) hp) rfl)) pd⟩
/-! ### a, b = [], e -/
def sParM (i j : Nat) (ma mb : TM) : SM := fun δ k => ma δ (fun d => mb δ (fun e => k.nx ((δ.set i (.m d)).set j (.v e))) (k.er δ)) (k.er δ)
/-! ### displays of dicts -/
def keyD : Key → D
  | .inl i => .int i
  | .inr x => .str x
def putD (kvs : List (Key × D)) (k : Key) (v : D) : List (Key × D) := if (kvs.any fun kv => decide (kv.1 = k)) = true then kvs.map (fun kv => if kv.1 = k then (kv.1, v) else kv) else kvs ++ [(k, v)]
def mergeD (kvs more : List (Key × D)) : List (Key × D) := more.foldl (fun acc kv => putD acc kv.1 kv.2) kvs
def valD (kvs : List (Key × D)) (k : Key) : Option D := (kvs.find? fun kv => decide (kv.1 = k)).map (·.2)
theorem RepKs.any {K : PySem.W.Frag} {H : Hp} (k : Key) : ∀ {vs : List (Key × V)} {ds : List (Key × D)}, RepKs K H vs ds → (vs.any fun kv => decide (kv.1 = k)) = (ds.any fun kv => decide (kv.1 = k))
  | _, _, .nil => rfl
  | _, _, .cons _ r => by simp only [List.any_cons, RepKs.any k r]
theorem RepKs.repl {K : PySem.W.Frag} {H : Hp} {k : Key} {v : V} {d : D} (rv : Rep K H v d) : ∀ {vs : List (Key × V)} {ds : List (Key × D)}, RepKs K H vs ds → RepKs K H (vs.map fun kv => if kv.1 = k then (kv.1, v) else kv) (ds.map fun kv => if kv.1 = k then (kv.1, d) else kv)
  | _, _, .nil => .nil
  | _, _, @RepKs.cons _ _ k' v' _ d' _ h r => by
    simp only [List.map_cons]
    by_cases e : k' = k
    · rw [if_pos e, if_pos e]
      exact .cons rv (RepKs.repl rv r)
    · rw [if_neg e, if_neg e]
      exact .cons h (RepKs.repl rv r)
theorem RepKs.append {K : PySem.W.Frag} {H : Hp} : ∀ {vs vs' : List (Key × V)} {ds ds' : List (Key × D)}, RepKs K H vs ds → RepKs K H vs' ds' → RepKs K H (vs ++ vs') (ds ++ ds')
  | _, _, _, _, .nil, s => s
  | _, _, _, _, .cons h r, s => .cons h (RepKs.append r s)
theorem RepKs.put {K : PySem.W.Frag} {H : Hp} {k : Key} {v : V} {d : D} {vs : List (Key × V)} {ds : List (Key × D)} (r : RepKs K H vs ds) (rv : Rep K H v d) : RepKs K H (putK vs k v) (putD ds k d) := by
  unfold putK putD
  rw [r.any k]
  split
  · exact r.repl rv
  · exact r.append (.cons rv .nil)
theorem RepKs.merge {K : PySem.W.Frag} {H : Hp} : ∀ {more : List (Key × V)} {mds : List (Key × D)} {vs : List (Key × V)} {ds : List (Key × D)}, RepKs K H more mds → RepKs K H vs ds → RepKs K H (mergeK vs more) (mergeD ds mds)
  | _, _, _, _, .nil, s => s
  | _, _, vs, ds, @RepKs.cons _ _ k v more d mds h r', s => show RepKs K H (mergeK (putK vs k v) more) (mergeD (putD ds k d) mds) from RepKs.merge r' (s.put h)
theorem RepKs.val {K : PySem.W.Frag} {H : Hp} (k : Key) : ∀ {vs : List (Key × V)} {ds : List (Key × D)} {d : D}, RepKs K H vs ds → valD ds k = some d → ∃ v, valV vs k = some v ∧ Rep K H v d
  | _, _, _, .nil, h => by cases h
  | _, _, d, @RepKs.cons _ _ k' v' vs d' ds h r, e => by
    by_cases q : k' = k
    · refine ⟨v', by rw [valV_pos q], ?_⟩
      have : valD ((k', d') :: ds) k = some d' := by simp [valD, List.find?_cons, q]
      rw [this] at e
      cases e
      exact h
    · have : valD ((k', d') :: ds) k = valD ds k := by simp [valD, List.find?_cons, q]
      rw [this] at e
      obtain ⟨v, h1, h2⟩ := RepKs.val k r e
      exact ⟨v, by rw [valV_neg q]; exact h1, h2⟩
theorem RepKs.none {K : PySem.W.Frag} {H : Hp} (k : Key) : ∀ {vs : List (Key × V)} {ds : List (Key × D)}, RepKs K H vs ds → valD ds k = Option.none → valV vs k = Option.none
  | _, _, .nil, _ => rfl
  | _, _, @RepKs.cons _ _ k' v' vs d' ds h r, e => by
    by_cases q : k' = k
    · have : valD ((k', d') :: ds) k = some d' := by simp [valD, List.find?_cons, q]
      rw [this] at e
      cases e
    · have : valD ((k', d') :: ds) k = valD ds k := by simp [valD, List.find?_cons, q]
      rw [this] at e
      rw [valV_neg q]
      exact RepKs.none k r e
def mPairs : List (TM × TM) → List DV → (List (D × D) → Prop) → (Er → Prop) → Prop
  | [], _, P, _ => P []
  | (mk, mv) :: r, δ, P, E => mk δ (fun x => mv δ (fun y => mPairs r δ (fun ps => P ((x, y) :: ps)) E) E) E
def mpNil : List (TM × TM) := []
def mpCons (mk mv : TM) (r : List (TM × TM)) : List (TM × TM) := (mk, mv) :: r
inductive RepP (K : PySem.W.Frag) (H : Hp) : List (V × V) → List (D × D) → Prop
  | nil : RepP K H [] []
  | cons {x y : V} {d d' : D} {vs : List (V × V)} {ds : List (D × D)} : Rep K H x d → Rep K H y d' → RepP K H vs ds → RepP K H ((x, y) :: vs) ((d, d') :: ds)
theorem RepP.split {K : PySem.W.Frag} {H : Hp} : ∀ {kvs : List (Key × D)} {vs : List (V × V)}, RepP K H vs (kvs.map fun kv => (keyD kv.1, kv.2)) → ∃ ws : List (Key × V), vs = ws.map (fun kv => (kV kv.1, kv.2)) ∧ RepKs K H ws kvs
  | [], _, r => by cases r; exact ⟨[], rfl, .nil⟩
  | (k, d) :: kvs, _, r => by
    cases r with
    | cons h1 h2 r =>
      obtain ⟨ws, rfl, rr⟩ := RepP.split r
      cases k with
      | inl i => cases h1; exact ⟨(Sum.inl i, _) :: ws, rfl, .cons h2 rr⟩
      | inr z => cases h1; exact ⟨(Sum.inr z, _) :: ws, rfl, .cons h2 rr⟩
def mDisp (ms : List (TM × TM)) : TM := fun δ Q E => mPairs ms δ (fun ps => ∃ kvs : List (Key × D), ps = kvs.map (fun kv => (keyD kv.1, kv.2)) ∧ kvs.length ≤ 15 ∧ Q (.dict (mergeD [] kvs))) E
theorem df_dnew : DF X W (.Dict [] [] pos) (mC (.dict [])) := PE.imp pe_dnewK fun σ H Q ⟨F, own, δ, P, EK, A, m, q⟩ p hp => q _ p _ m hp (same_upd hp) (.d upd_same (Nat.zero_le _) .nil)
/-! ### slices -/
abbrev OM := List DV → (Option Int → Prop) → (Er → Prop) → Prop
def tpo (K : PySem.W.Frag) (W : WX) (mo : OM) : TO := fun σ H Q => ∃ (F : Fm) (own : List Addr) (δ : List DV) (P : Option Int → Prop) (EK : Er → Prop), At K W σ H F own δ EK ∧ mo δ P EK ∧ ∀ o H', P o → Same H H' → Q o H'
def DO (X : Cx) (W : WX) (e : Option Expr) (mo : OM) : Prop := PO X e (tpo X.K W mo)
theorem PO.imp {e : Option Expr} {t t' : TO} (h : PO X e t) (kk : ∀ σ H Q, t' σ H Q → t σ H Q) : PO X e t' := ⟨fun pins s σ H Q I q => h.run pins s σ H Q I (kk _ _ _ q)⟩
def mNoPart : OM := fun _ P _ => P none
def mPart (ma : TM) : OM := fun δ P E => ma δ (fun d => ∃ i, d = .int i ∧ P (some i)) E
theorem do_none : DO X W none mNoPart := PO.imp po_none fun σ H Q ⟨F, own, δ, P, EK, A, m, q⟩ => q none H m (Same.refl H)
theorem do_some (ha : DE X W a ba ma) : DO X W (some a) (mPart ma) := PO.imp (po_some ha) fun σ H Q ⟨F, own, δ, P, EK, A, m, q⟩ => ⟨F, own, δ, _, EK, A, m, fun d v H1 ⟨i, ed, pp⟩ s r => by
  subst ed
  exact ⟨i, r.isInt, q _ H1 pp s⟩⟩
def cutL {α : Type} (xs : List α) (lo hi : Option Int) : List α := (xs.drop (HT.sIx xs.length 0 lo)).take (HT.sIx xs.length xs.length hi - HT.sIx xs.length 0 lo)
def fSlice (d : D) (lo hi : Option Int) (Q : D → Prop) : Prop := match d with
  | .list xs => Q (.list (cutL xs lo hi))
  | .tup xs => Q (.tup (cutL xs lo hi))
  | _ => False
def mSlice (ma : TM) (ml mu : OM) : TM := fun δ Q E => ma δ (fun d => ml δ (fun lo => mu δ (fun hi => fSlice d lo hi Q) E) E) E
theorem Reps.cut {K : PySem.W.Frag} {H : Hp} {xs : List V} {ds : List D} (r : Reps K H xs ds) (lo hi : Option Int) : Reps K H (cutV xs lo hi) (cutL ds lo hi) := by
  unfold cutV cutL
  rw [r.length]
  exact (r.drop _).take _
theorem de_slice {lo hi : Option Expr} {ml mu : OM} {p2 : Pos} (he : DE X W e ba ma) (hl : DO X W lo ml) (hu : DO X W hi mu) : DE X W (.Subscript e (.Slice lo hi none p2) pos) false (mSlice ma ml mu) :=
  PE.imp (pe_slice (SlR.or sl_list sl_tupA) he hl hu) fun σ H Q ⟨F, own, δ, P, EK, A, m, q⟩ => ⟨F, own, δ, _, EK, A, m, fun d v H1 m1 s1 r1 => ⟨F, own, δ, _, EK, A.on s1, m1, fun l H2 m2 s2 => ⟨F, own, δ, _, EK, A.on (s1.trans s2), m2, fun u H3 m3 s3 => by
    have r3 := r1.mono (s2.trans s3).ob
    have t3 := (A.env.grow ((s1.trans s2).trans s3)).trk
    unfold fSlice at m3
    split at m3
    · obtain ⟨a, xs, rfl, h1, h2, h3⟩ := r3.list
      have hz : (cutV xs l u).length ≤ sizeLine := Nat.le_trans (cutV_length xs l u) h2
      exact .inl ⟨a, xs, rfl, .of h1, fun p hp => q _ _ _ m3 (((s1.trans s2).trans s3).trans (same_upd hp)) (.cl (new_list t3 hp hz (h3.cut l u)))⟩
    · rename_i dsx
      obtain ⟨a, xs, ev, h1, h2, h3⟩ := r3.tup
      subst ev
      have hz : (cutV xs l u).length ≤ sizeLine := Nat.le_trans (cutV_length xs l u) h2
      refine .inr ⟨a, xs, rfl, h1, fun ⟨q1, q2⟩ => ?_, fun _ p hp => q _ _ _ m3 (((s1.trans s2).trans s3).trans (same_upd hp)) (.cl (new_tup t3 hp hz (h3.cut l u)))⟩
      refine q _ _ H3 m3 ((s1.trans s2).trans s3) ?_
      have e : cutL dsx l u = dsx := by
        unfold cutL
        rw [← h3.length, q1, q2, List.drop_zero, Nat.sub_zero, h3.length, List.take_length]
      rw [e]
      cases r3 with
      | cl r3 => exact .cl r3
    · exact m3.elim⟩⟩⟩
/-! ### zip of two lists, of two tuples -/
def zipD (xs ys : List D) : List D := (xs.zip ys).map fun q => .tup [q.1, q.2]
theorem zipD_length (xs ys : List D) : (zipD xs ys).length = min xs.length ys.length := by unfold zipD; rw [List.length_map, List.length_zip]
theorem zipD_get {xs ys : List D} {i : Nat} {d d' : D} (h : xs[i]? = some d) (h' : ys[i]? = some d') : (zipD xs ys)[i]? = some (.tup [d, d']) := by
  unfold zipD
  rw [List.getElem?_map, List.getElem?_zip_eq_some (z := (d, d')) |>.mpr ⟨h, h'⟩]
  rfl
def mZip (la : LM) : LM := fun δ P E => la δ (fun ds => (∃ xs ys, ds = [.list xs, .list ys] ∧ P (zipD xs ys)) ∨ (∃ xs ys, ds = [.tup xs, .tup ys] ∧ P (zipD xs ys))) E
theorem itok_zipT {K : PySem.W.Frag} {Hg Hb : Hp} {a b : Addr} {xs ys : List V} {ds es : List D} (h : SqT K Hg a xs) (h' : SqT K Hg b ys) (hz : xs.length ≤ sizeLine) (r : Reps K Hb xs ds) (r' : Reps K Hb ys es) : ItOk K (RZ.ItzT K a b) Hg Hb (zipD ds es) where
  sz := by rw [zipD_length, ← r.length]; omega
  go := fun i H s hi => by
    rw [zipD_length, ← r.length, ← r'.length] at hi
    exact ⟨xs, ys, xs[i]'(by omega), ys[i]'(by omega), sameT s h, sameT s h', List.getElem?_eq_getElem _, List.getElem?_eq_getElem _⟩
  stop := fun i H s hi => by
    rw [zipD_length, ← r.length, ← r'.length] at hi
    exact ⟨xs, ys, sameT s h, sameT s h', by omega⟩
  yld := fun i H x H' ls s sb ht hi ⟨T, v, v', ev, hT, eH, k1, k2⟩ => by
    subst ev eH
    obtain ⟨d, e1, r1⟩ := r.get (k1 xs (sameT s h))
    obtain ⟨d', e2, r2⟩ := r'.get (k2 ys (sameT s h'))
    exact ⟨_, zipD_get e1 e2, same_upd hT, new_tup ht hT (by show 2 ≤ sizeLine; rw [sizeLine_eq]; decide) (.cons (r1.mono sb) (.cons (r2.mono sb) .nil))⟩
theorem itok_zipL {K : PySem.W.Frag} {Hg Hb : Hp} {a b : Addr} {xs ys : List V} {ds es : List D} (h : Hg a = some (.lst xs)) (h' : Hg b = some (.lst ys)) (hz : xs.length ≤ sizeLine) (r : Reps K Hb xs ds) (r' : Reps K Hb ys es) : ItOk K (L2.Itz K a b) Hg Hb (zipD ds es) where
  sz := by rw [zipD_length, ← r.length]; omega
  go := fun i H s hi => by
    rw [zipD_length, ← r.length, ← r'.length] at hi
    exact ⟨xs, ys, xs[i]'(by omega), ys[i]'(by omega), .of (s _ _ h), .of (s _ _ h'), List.getElem?_eq_getElem _, List.getElem?_eq_getElem _⟩
  stop := fun i H s hi => by
    rw [zipD_length, ← r.length, ← r'.length] at hi
    exact ⟨xs, ys, .of (s _ _ h), .of (s _ _ h'), by omega⟩
  yld := fun i H x H' ls s sb ht hi ⟨T, v, v', ev, hT, eH, k1, k2⟩ => by
    subst ev eH
    obtain ⟨d, e1, r1⟩ := r.get (k1 xs (.of (s _ _ h)))
    obtain ⟨d', e2, r2⟩ := r'.get (k2 ys (.of (s _ _ h')))
    exact ⟨_, zipD_get e1 e2, same_upd hT, new_tup ht hT (by show 2 ≤ sizeLine; rw [sizeLine_eq]; decide) (.cons (r1.mono sb) (.cons (r2.mono sb) .nil))⟩
theorem RVs.twob {K : PySem.W.Frag} {fo ls : List Addr} {H : Hp} {b : Bool} {vs : List V} {d d' : D} (r : RVs K fo ls H b vs [d, d']) : ∃ v v', vs = [v, v'] ∧ RV K fo ls H b v d ∧ RV K fo ls H b v' d' := r.two
theorem di_zip {elts : List Expr} {kk : Nat} {tpos : Pos} (hg : Gl X "zip") (hm : X.mg "zip" = none) (ha : DA X W [e, e2] ba la) (hs : starEach [e, e2] X.env = (false, eval e X.env) :: starEach [e2] X.env := by rfl) (hpl : (backTo pos (starEach [e2] X.env)).any (·.1) = false := by rfl) :
    DI X W (.Tuple elts kk tpos) (.Call (.Name "zip" p) [e, e2] [] pos) ba (mZip la) :=
  PI.imp (RZ.pi_zipA hg hm ha hs hpl) fun σ H R ⟨F, own, δ, P, EK, A, m, q⟩ => ⟨F, own, δ, _, EK, A, m, fun ds vs H1 pq s r => by
    rcases pq with ⟨xs, ys, rfl, pq⟩ | ⟨xs, ys, rfl, pq⟩
    · obtain ⟨v, v', rfl, r1, r2⟩ := r.twob
      obtain ⟨a, us, rfl, h1, h2, h3⟩ := flo_list r1
      obtain ⟨b, ws, rfl, g1, g2, g3⟩ := flo_list r2
      exact ⟨a, b, us, ws, rfl, .inl ⟨.of (flo_le _ _ h1), .of (flo_le _ _ g1), q _ _ H1 pq s (itok_zipL h1 g1 h2 h3 g3)⟩⟩
    · obtain ⟨v, v', rfl, r1, r2⟩ := r.twob
      obtain ⟨a, us, rfl, h1, h2, h3⟩ := flo_tup r1
      obtain ⟨b, ws, rfl, g1, g2, g3⟩ := flo_tup r2
      exact ⟨a, b, us, ws, rfl, .inr ⟨sameT flo_le h1, sameT flo_le g1, q _ _ H1 pq s (itok_zipT h1 g1 h2 h3 g3)⟩⟩⟩
end
end DL
set_option Elab.async false
set_option linter.all false
set_option maxRecDepth 100000
set_option maxHeartbeats 4000000
/-! DL10: loops over data. -/
namespace DL
open PySem PySem.Spec PyProof.Rows L2
variable [TabsC]
section
variable {g : GM} {mt : BM} {me : TM} {mb : SM} {δ0 δ : List DV} {k : KD}
/-- a comprehension whose turns are reckoned -/
theorem compL_det {ds : List D} (p : D → Bool) (f : D → D) (h : ∀ d, d ∈ ds → ∀ (R : D → Prop) (S : Prop), (if p d = true then R (f d) else S) → g d δ0 fun δ' => mt δ' (fun b => if b = true then me δ' R NoE else S) NoE) :
    ∀ {acc : List D} {Q : D → Prop}, Q (.list (acc ++ (ds.filter p).map f)) → compL g mt me δ0 ds acc Q := by
  induction ds with
  | nil =>
    intro acc Q q
    simpa [compL] using q
  | cons d ds ih =>
    intro acc Q q
    unfold compL
    refine h d List.mem_cons_self _ _ ?_
    by_cases e : p d = true
    · rw [if_pos e]
      refine ih (fun d' h' => h d' (List.mem_cons_of_mem _ h')) ?_
      rw [List.filter_cons_of_pos e] at q
      simpa using q
    · rw [if_neg e]
      refine ih (fun d' h' => h d' (List.mem_cons_of_mem _ h')) ?_
      rw [List.filter_cons_of_neg e] at q
      exact q
/-- .. without a test -/
theorem compL_map {ds : List D} (f : D → D) (h : ∀ d, d ∈ ds → ∀ (R : D → Prop) (S : Prop), R (f d) → g d δ0 fun δ' => mt δ' (fun b => if b = true then me δ' R NoE else S) NoE) {acc : List D} {Q : D → Prop} (q : Q (.list (acc ++ ds.map f))) : compL g mt me δ0 ds acc Q := by
  refine compL_det (fun _ => true) f (fun d hd R S r => h d hd R S (by simpa using r)) ?_
  have e : ds.filter (fun _ => true) = ds := List.filter_eq_self.mpr fun _ _ => rfl
  rw [e]
  exact q
/-- a loop by what holds ahead of each turn -/
theorem forL_inv {ds : List D} (I : Nat → List DV → Prop) (h : ∀ (i : Nat) (d : D) (δ : List DV) (N : List DV → Prop), ds[i]? = some d → I i δ → (∀ δ', I (i + 1) δ' → N δ') → g d δ fun δ' => mb δ' { k with nx := N, ct := N, bk := k.nx })
    (h0 : I 0 δ) (hd : ∀ δ, I ds.length δ → k.nx δ) : forL g mb ds δ k := by
  have go : ∀ (n i : Nat) (δ : List DV), i + n = ds.length → I i δ → forL g mb (ds.drop i) δ k := by
    intro n
    induction n with
    | zero =>
      intro i δ e hi
      have e' : i = ds.length := by omega
      subst e'
      rw [List.drop_length]
      exact hd δ hi
    | succ n ih =>
      intro i δ e hi
      have hl : i < ds.length := by omega
      have eg : ds[i]? = some ds[i] := List.getElem?_eq_getElem hl
      rw [drop_get eg]
      exact h i _ δ _ eg hi fun δ' h' => ih (i + 1) δ' (by omega) h'
  simpa using go ds.length 0 δ (by omega) h0
end
theorem rangeD_get {lo : Int} {n i : Nat} {d : D} (h : (rangeD lo n)[i]? = some d) : i < n ∧ d = .int (lo + i) := by
  unfold rangeD at h
  rw [List.getElem?_map] at h
  by_cases hi : i < n
  · rw [List.getElem?_range hi] at h
    exact ⟨hi, (Option.some.inj h).symm⟩
  · rw [List.getElem?_eq_none (by simpa using hi)] at h
    cases h
theorem rangeD_mem {lo : Int} {n : Nat} {d : D} (h : d ∈ rangeD lo n) : ∃ i : Nat, i < n ∧ d = .int (lo + i) := by
  obtain ⟨i, hi⟩ := List.getElem?_of_mem h
  exact ⟨i, rangeD_get hi⟩
theorem atI_of {α : Type} {xs : List α} {i : Int} (h0 : 0 ≤ i) (h1 : i < xs.length) : ∃ x, atI xs i = some x ∧ x ∈ xs := by
  have hn : i.toNat < xs.length := by omega
  refine ⟨xs[i.toNat], ?_, List.getElem_mem hn⟩
  have := atI_nat (xs := xs) (j := i.toNat) (v := xs[i.toNat]) (List.getElem?_eq_getElem hn)
  rwa [Int.toNat_of_nonneg h0] at this
end DL
set_option Elab.async false
set_option linter.all false
set_option maxRecDepth 100000
set_option maxHeartbeats 4000000
/-! DL11: equations for the walk over data. -/
namespace DL
open PySem PySem.Spec PyProof.Rows L2
variable [TabsC]
theorem p61 : (2 : Int) ^ 61 = 2305843009213693952 := by decide
theorem eAbs {i : Int} {Q : D → Prop} : fAbs [.int i] Q = Q (.int (if i < 0 then -i else i)) := propext ⟨fun ⟨j, e, q⟩ => by cases e; exact q, fun q => ⟨i, rfl, q⟩⟩
theorem eMax2 {i j : Int} {Q : D → Prop} : fMax2 [.int i, .int j] Q = Q (.int (if j > i then j else i)) := propext ⟨fun ⟨_, _, e, q⟩ => by cases e; exact q, fun q => ⟨i, j, rfl, q⟩⟩
theorem eMin2 {i j : Int} {Q : D → Prop} : fMin2 [.int i, .int j] Q = Q (.int (if j < i then j else i)) := propext ⟨fun ⟨_, _, e, q⟩ => by cases e; exact q, fun q => ⟨i, j, rfl, q⟩⟩
section
variable {i j : Int} {Q : D → Prop} {R : Bool → Prop} {a b : Str} {xs ys : List D} {ns : List Int} {p q : Bool} {C : Int → Int → Prop} {g : Int → Int → Int} {gt : Int → Int → Bool} {ht : List Nat → List Nat → Bool} {lo hi : Option Int}
theorem e_fIx_1 : fIx (.list xs) (.int i) Q = ∃ d, atI xs i = some d ∧ Q d := rfl
theorem e_fIx_2 : fIx (.tup xs) (.int i) Q = ∃ d, atI xs i = some d ∧ Q d := rfl
theorem e_fIx_3 : fIx (.script ns) (.int i) Q = ∃ n, atI ns i = some n ∧ Q (.int n) := rfl
theorem e_fIx_4 : fIx (.str a) (.int i) Q = ∃ c, a.length ≤ sizeLine ∧ atI a.cps.toList i = some c ∧ Q (.str ⟨#[c]⟩) := rfl
theorem e_fAdd_1 : fAdd (.int i) (.int j) Q = Q (.int (i + j)) := rfl
theorem e_fAdd_2 : fAdd (.str a) (.str b) Q = (a.length + b.length ≤ sizeLine ∧ Q (.str (a ++ b))) := rfl
theorem e_fAdd_3 : fAdd (.tup xs) (.tup ys) Q = (xs.length + ys.length ≤ sizeLine ∧ Q (.tup (xs ++ ys))) := rfl
theorem e_fAdd_4 : fAdd (.list xs) (.list ys) Q = (xs.length + ys.length ≤ sizeLine ∧ Q (.list (xs ++ ys))) := rfl
theorem e_fSub_1 : fSub (.int i) (.int j) Q = Q (.int (i - j)) := rfl
theorem e_fI_1 : fI C g (.int i) (.int j) Q = (C i j ∧ Q (.int (g i j))) := rfl
theorem e_fCmp_1 : fCmp gt ht (.int i) (.int j) R = R (gt i j) := rfl
theorem e_fCmp_2 : fCmp gt ht (.str a) (.str b) R = R (ht a.cps.toList b.cps.toList) := rfl
theorem e_fIsB_1 : fIsB (.bool p) (.bool q) R = R (decide (p = q)) := rfl
theorem e_fIsNotB_1 : fIsNotB (.bool p) (.bool q) R = R (!decide (p = q)) := rfl
theorem e_fLen_1 : fLen [.list xs] Q = Q (.int xs.length) := rfl
theorem e_fLen_2 : fLen [.tup xs] Q = Q (.int xs.length) := rfl
theorem e_fLen_3 : fLen [.script ns] Q = Q (.int ns.length) := rfl
theorem e_fLen_4 : fLen [.str a] Q = (a.length ≤ sizeLine ∧ Q (.int a.length)) := rfl
theorem e_fInt_1 : fInt [.int i] Q = Q (.int i) := rfl
theorem e_fInt_2 : fInt [.bool p] Q = Q (.int (if p then 1 else 0)) := rfl
theorem e_fTuple_1 : fTuple [.list xs] Q = Q (.tup xs) := rfl
theorem e_fTuple_2 : fTuple [.tup xs] Q = Q (.tup xs) := rfl
theorem e_fList_1 : fList [.list xs] Q = Q (.list xs) := rfl
theorem e_fList_2 : fList [.tup xs] Q = Q (.list xs) := rfl
theorem e_fSlice_1 : fSlice (.list xs) lo hi Q = Q (.list (cutL xs lo hi)) := rfl
theorem e_fSlice_2 : fSlice (.tup xs) lo hi Q = Q (.tup (cutL xs lo hi)) := rfl
end
/-- data of the plain kinds, at most n deep -/
def fineN (n : Nat) (d : D) : Prop := d.isPy = true ∧ d.py.canLay0 = true ∧ d.py.depth ≤ n
theorem fineN.fine {n : Nat} {d : D} (h : fineN n d) (hn : n ≤ 64) : d.fine = true := by
  unfold D.fine SeqAt.shaped
  rw [h.1, h.2.1, decide_eq_true (Nat.le_trans h.2.2 hn)]
  rfl
theorem fineN.mono {n m : Nat} {d : D} (h : fineN n d) (hn : n ≤ m) : fineN m d := ⟨h.1, h.2.1, Nat.le_trans h.2.2 hn⟩
theorem fineN_int {n : Nat} {i : Int} : fineN n (.int i) := ⟨rfl, rfl, Nat.zero_le _⟩
theorem fineN_bool {n : Nat} {b : Bool} : fineN n (.bool b) := ⟨rfl, rfl, Nat.zero_le _⟩
def okS (x : Str) : Prop := PyData.strOk x = true
theorem fineN_all {n : Nat} : ∀ {ds : List D}, (∀ d, d ∈ ds → fineN n d) → D.arePy ds = true ∧ PyData.canLayAll0 (D.pys ds) = true ∧ PyData.depthAll (D.pys ds) ≤ n
  | [], _ => ⟨rfl, rfl, Nat.zero_le _⟩
  | d :: ds, h => by
    obtain ⟨h1, h2, h3⟩ := h d List.mem_cons_self
    obtain ⟨g1, g2, g3⟩ := fineN_all (ds := ds) fun x hx => h x (List.mem_cons_of_mem _ hx)
    refine ⟨?_, ?_, ?_⟩
    · unfold D.arePy; rw [h1, g1]; rfl
    · unfold D.pys PyData.canLayAll0; rw [h2, g2]; rfl
    · unfold D.pys PyData.depthAll; omega
theorem fineN_list {n : Nat} {ds : List D} (h : ∀ d, d ∈ ds → fineN n d) : fineN (n + 1) (.list ds) := by
  obtain ⟨g1, g2, g3⟩ := fineN_all h
  refine ⟨?_, ?_, ?_⟩
  · unfold D.isPy; exact g1
  · unfold D.py PyData.canLay0; exact g2
  · unfold D.py PyData.depth; omega
theorem fineN_tup {n : Nat} {ds : List D} (h : ∀ d, d ∈ ds → fineN n d) : fineN (n + 1) (.tup ds) := by
  obtain ⟨g1, g2, g3⟩ := fineN_all h
  refine ⟨?_, ?_, ?_⟩
  · unfold D.isPy; exact g1
  · unfold D.py PyData.canLay0; exact g2
  · unfold D.py PyData.depth; omega
/-- equality of lists, item by item -/
def eqAll : List D → List D → Bool
  | [], [] => true
  | x :: xs, y :: ys => eqD x y && eqAll xs ys
  | _, _ => false
theorem eqvAll_pys : ∀ xs ys : List D, PyData.eqvAll (D.pys xs) (D.pys ys) = eqAll xs ys
  | [], [] => by simp [D.pys, PyData.eqvAll, eqAll]
  | [], _ :: _ => by simp [D.pys, PyData.eqvAll, eqAll]
  | _ :: _, [] => by simp [D.pys, PyData.eqvAll, eqAll]
  | x :: xs, y :: ys => by simp only [D.pys, PyData.eqvAll, eqAll, eqD, eqvAll_pys xs ys]
theorem eqD_list (xs ys : List D) : eqD (.list xs) (.list ys) = eqAll xs ys := by simp only [eqD, D.py, PyData.eqv, eqvAll_pys]
theorem eqD_tup (xs ys : List D) : eqD (.tup xs) (.tup ys) = eqAll xs ys := by simp only [eqD, D.py, PyData.eqv, eqvAll_pys]
theorem eqD_int (i j : Int) : eqD (.int i) (.int j) = (i == j) := by simp only [eqD, D.py, PyData.eqv]
theorem eqD_bool (i j : Bool) : eqD (.bool i) (.bool j) = (i == j) := by simp only [eqD, D.py, PyData.eqv]
theorem eqD_refl {d : D} (h : d.fine = true) : eqD d d = true := SeqAt.eqv_refl d.py (fine_lay h)
/-- equal lists, by what they hold -/
theorem fEq_same {d : D} {Q : Bool → Prop} (h : d.fine = true) (q : Q true) : fEq d d Q := ⟨h, h, by rw [eqD_refl h]; exact q⟩
theorem fNe_same {d : D} {Q : Bool → Prop} (h : d.fine = true) (q : Q false) : fNe d d Q := ⟨h, h, by rw [eqD_refl h]; exact q⟩
end DL
set_option Elab.async false
set_option linter.all false
set_option maxRecDepth 100000
set_option maxHeartbeats 4000000
/-! DL12: kinds; shown texts of plain data; decimal lengths. -/
namespace DL
open PySem PySem.Spec PyProof.Rows L2
variable [TabsC]
/-! ### kinds -/
def D.isI : D → Bool
  | .int _ => true
  | .bool _ => true
  | _ => false
def D.isB : D → Bool
  | .bool _ => true
  | _ => false
def D.isT : D → Bool
  | .tup _ => true
  | _ => false
theorem kit_int {d : D} {t : String} (h : d.tyn = some t) : kitB t "int" = some d.isI := by
  cases d with
  | none => cases h; exact (by decide +kernel : kitB "NoneType" "int" = some false)
  | bool _ => cases h; exact (by decide +kernel : kitB "bool" "int" = some true)
  | int _ => cases h; exact (by decide +kernel : kitB "int" "int" = some true)
  | str _ => cases h; exact (by decide +kernel : kitB "str" "int" = some false)
  | list _ => cases h; exact (by decide +kernel : kitB "list" "int" = some false)
  | tup _ => cases h; exact (by decide +kernel : kitB "tuple" "int" = some false)
  | dict _ => cases h; exact (by decide +kernel : kitB "dict" "int" = some false)
  | dice => cases h
  | script _ => cases h
  | tdict _ => cases h
  | opq _ _ => cases h
  | ty _ => cases h
  | obj _ _ => cases h
  | fn _ => cases h
  | exc _ _ _ _ _ => cases h
  | sob _ _ => cases h
theorem kit_bool {d : D} {t : String} (h : d.tyn = some t) : kitB t "bool" = some d.isB := by
  cases d with
  | none => cases h; exact (by decide +kernel : kitB "NoneType" "bool" = some false)
  | bool _ => cases h; exact (by decide +kernel : kitB "bool" "bool" = some true)
  | int _ => cases h; exact (by decide +kernel : kitB "int" "bool" = some false)
  | str _ => cases h; exact (by decide +kernel : kitB "str" "bool" = some false)
  | list _ => cases h; exact (by decide +kernel : kitB "list" "bool" = some false)
  | tup _ => cases h; exact (by decide +kernel : kitB "tuple" "bool" = some false)
  | dict _ => cases h; exact (by decide +kernel : kitB "dict" "bool" = some false)
  | dice => cases h
  | script _ => cases h
  | tdict _ => cases h
  | opq _ _ => cases h
  | ty _ => cases h
  | obj _ _ => cases h
  | fn _ => cases h
  | exc _ _ _ _ _ => cases h
  | sob _ _ => cases h
theorem kit_tup {d : D} {t : String} (h : d.tyn = some t) : kitB t "tuple" = some d.isT := by
  cases d with
  | none => cases h; exact (by decide +kernel : kitB "NoneType" "tuple" = some false)
  | bool _ => cases h; exact (by decide +kernel : kitB "bool" "tuple" = some false)
  | int _ => cases h; exact (by decide +kernel : kitB "int" "tuple" = some false)
  | str _ => cases h; exact (by decide +kernel : kitB "str" "tuple" = some false)
  | list _ => cases h; exact (by decide +kernel : kitB "list" "tuple" = some false)
  | tup _ => cases h; exact (by decide +kernel : kitB "tuple" "tuple" = some true)
  | dict _ => cases h; exact (by decide +kernel : kitB "dict" "tuple" = some false)
  | dice => cases h
  | script _ => cases h
  | tdict _ => cases h
  | opq _ _ => cases h
  | ty _ => cases h
  | obj _ _ => cases h
  | fn _ => cases h
  | exc _ _ _ _ _ => cases h
  | sob _ _ => cases h
/-! ### texts -/
/-! ### shown data -/
structure Sh (n k : Nat) (d : D) : Prop where
  py : d.isPy = true
  sh : d.py.showable = true
  dep : d.py.depth ≤ k
  len : d.py.shown.length ≤ n
  ok : okS d.py.shown
theorem Sh.mono {n k n' k' : Nat} {d : D} (h : Sh n k d) (hn : n ≤ n') (hk : k ≤ k') : Sh n' k' d := ⟨h.py, h.sh, Nat.le_trans h.dep hk, Nat.le_trans h.len hn, h.ok⟩
end DL
set_option Elab.async false
set_option linter.all false
set_option maxRecDepth 100000
set_option maxHeartbeats 4000000
/-! DL13: [::-1]; sorted(set(..)); three comparisons in a row; tuple(range(..)). -/
namespace DL
open PySem PySem.Spec PyProof.Rows L2
variable [TabsC]
section
variable {X : Cx} {W : WX} {a b c e e2 o : Expr} {es : List Expr} {ba bb : Bool} {ma mb : TM} {la : LM} {pos p : Pos} {x y : Str} {k : Nat}
/-! ### e[::-1] -/
def mRev (ma : TM) : TM := fun δ Q E => ma δ (fun d => (∃ ds, d = .list ds ∧ Q (.list ds.reverse)) ∨ (∃ ds, d = .tup ds ∧ Q (.tup ds.reverse))) E
end
end DL
set_option Elab.async false
set_option linter.all false
set_option maxRecDepth 100000
set_option maxHeartbeats 4000000
/-! DL14: set(list of ints), sorted(set(..)). -/
namespace DL
open PySem PySem.Spec PyProof.Rows L2
variable [TabsC]
section
variable {P : Program} {w : World} {A : Around} {E : Value → Shared → Prop} {s : Shared}
/-- a set as it is made -/
abbrev bare (w : World) : Obj := { cls := .type "set", dict := none, data := .set #[] 0 (.fresh 0 0 (!w.params.followText "set-order")) }
theorem set_of_list {l : Addr} {items : Array Value} (ns : List Int) {Q : Value → Shared → Prop} (calm : A.handled = none) (isl : s.heap.IsList l items) (iar : IntsAre items.toList ns) (room : ns.length + 1 < scanBound)
    (done : ∀ (g : Heap) (tk c : Nat), SetR w g s.heap.objs.size (fun j => decide (j ∈ ns)) c → c ≤ ns.length → (∀ b o, s.heap.get? b = some o → g.get? b = some o) → Q (.ref s.heap.objs.size) { s with heap := g, toks := tk }) :
    wpAny (model P w) A (call (.type "set") [.ref l]) Q E s := by
  have size : items.size = ns.length := by rw [← Array.length_toList]; exact IntsAre.length iar
  obtain ⟨c, tl, mro⟩ := F.called_set.mro
  have made := F.called_set.made
  have sub := F.called_set.sub
  refine wpAny_call (codeAny_of_tree ?_)
  show wpAny _ _ (callAny (.type "set") _) _ _ _
  refine wpAny_pure ⟨Code.quiet_builtin _ (by decide +kernel), codeAny_builtin F.entry_type_call ?_⟩
  rw [Around.under_plain (weight_type_call_type "set" [.ref l] []) rfl]
  have nt := F.called_set.notType
  have cc := F.called_set.canCreate
  have ct := F.typeCall_set_1 (.ref l)
  repeat (any_goals (first | assumption | wp_step))
  refine codeAny_mono (code_set_led1 (.ref l) (E := E) (Q₁ := fun obj s₁ => obj = .ref s.heap.objs.size ∧ s₁ = { s with heap := s.heap.push (bare w) }) ⟨rfl, rfl⟩) fun r s₁ made1 => ?_
  match r, made1 with
  | .error e, made1 => exact made1
  | .ok (.ret obj), made1 =>
    obtain ⟨rfl, rfl⟩ := made1
    have at0 : (s.heap.push (bare w)).get? s.heap.objs.size = some (bare w) := Heap.get?_push_size _ rfl
    have ty0 : Shared.TypeIs { s with heap := s.heap.push (bare w) } (.ref s.heap.objs.size) "set" := ⟨_, at0, rfl⟩
    have lk0 := F.called_set.init.lookup
    have bd0 := F.called_set.init.bind (.ref s.heap.objs.size)
    repeat (any_goals (first | assumption | wp_step))
    refine codeAny_mono (codeAny_call_builtin (R := wants (fun r s₂ => r = .none ∧ ∃ g tk c, s₂ = { s with heap := g, toks := tk } ∧ SetR w g s.heap.objs.size (fun j => decide (j ∈ ns)) c ∧ c ≤ ns.length ∧ ∀ b o, s.heap.get? b = some o → g.get? b = some o) E) F.called_set.init.plain F.entry_set_init (check_set_init_1 ty0 ?_)) fun r₂ s₂ made2 => ?_
    · obtain ⟨⟨ocls, odict, odata, oslots⟩, ol, hcl, nl, hdl⟩ := isl
      simp only at hcl hdl
      subst hcl; subst hdl
      have ol' : (s.heap.push (bare w)).get? l = some { cls := .type "list", dict := odict, data := .seq items nl, slots := oslots } := Heap.get?_push_of_some _ ol
      have no1 := F.sub_list_set
      have no2 := F.sub_list_frozenset
      have no3 : (Value.type "list" == Value.type "dict") = false := by decide
      have isl' : (s.heap.push (bare w)).IsList l items := ⟨_, ol', rfl, nl, rfl⟩
      unfold Builtin.«set.__init__» noKeywords Builtin.Frozenset.updateFrom
      generalize same : pyIter = PI
      wp_walk
      subst same
      refine wpAny_pyIter_list isl' (wpAny_bind (wpAny_runValue ?_))
      have lt : l < s.heap.objs.size := Heap.lt_size ol
      have sz1 : (s.heap.push (bare w)).objs.size = s.heap.objs.size + 1 := Heap.size_push ..
      have ne1 : l ≠ (s.heap.push (bare w)).objs.size := by rw [sz1]; exact Nat.ne_of_lt (Nat.lt_succ_of_lt lt)
      have nin : s.heap.objs.size ∉ [(s.heap.push (bare w)).objs.size, l] := by
        rw [sz1]
        simp only [List.mem_cons, List.not_mem_nil, or_false, not_or]
        exact And.intro (Nat.ne_of_lt (Nat.lt_succ_self _)) (Nat.ne_of_gt lt)
      have each : ∀ (i : Nat) (v : Value), items[i]? = some v → ∃ k t, ns[i]? = some k ∧ v = .int k t := fun i v hv => by
        have hi : i < ns.length := by rw [← size]; exact (Array.getElem?_eq_some_iff.mp hv).1
        obtain ⟨t, e⟩ := PyProof.Rows.IntsAre.int_at iar i v (by rw [Array.getElem?_toList]; exact hv)
        refine ⟨ns[i], t, List.getElem?_eq_getElem hi, ?_⟩
        rw [e, List.getD_eq_getElem?_getD, List.getElem?_eq_getElem hi] <;> rfl
      have calm3 : A.in1.in1.in1.handled = none := by simp [calm]
      refine set_update_ints ((Walks.list calm3 _ l ne1 items).toS) s.heap.objs.size nin ns size room each (items.size - 0) 0 _ (by omega) (Nat.zero_le _) ⟨⟨_, Heap.get?_push_size _ rfl, rfl, rfl⟩, (isl'.push _)⟩ ?start ?fin
      case start =>
        have at1 : ((s.heap.push (bare w)).push { cls := .type "list_iterator", data := .fields #[.ref l, .int 0 0] }).get? s.heap.objs.size = some (bare w) := Heap.get?_push_of_some _ at0
        exact ⟨0, Nat.le_refl 0, setR_new_at at1⟩
      case fin =>
        intro s' c' mv le R
        obtain ⟨g, gens', drawn', tk', os'⟩ := s'
        have eg : gens' = s.gens := mv.gens
        have ed : drawn' = s.drawn := mv.drawn
        have eo : os' = s.os := mv.os
        subst eg ed eo
        show wpAny _ _ _ _ _ _
        refine wpAny_pure ?_
        show wpAny _ _ (ret Value.none) _ _ _
        rw [size] at le
        refine wpAny_pure ⟨rfl, g, tk', c', rfl, R, le, fun b o e => ?_⟩
        have hb := Heap.lt_size e
        exact mv.heap b o (by
          rw [sz1]
          simp only [List.mem_cons, List.not_mem_nil, or_false, not_or]
          exact And.intro (Nat.ne_of_lt hb) (Nat.ne_of_lt (Nat.lt_succ_of_lt hb))) (Heap.get?_push_of_some _ (Heap.get?_push_of_some _ e))
    · match r₂, made2 with
      | .error e, made2 => exact made2
      | .ok (.ret r), made2 =>
        obtain ⟨rfl, g, tk, c', rfl, R, le, kept⟩ := made2
        repeat (any_goals (first | assumption | wp_step))
        exact done _ _ _ R le kept
end
end DL
set_option Elab.async false
set_option linter.all false
set_option maxRecDepth 100000
set_option maxHeartbeats 4000000
/-! DL15: sorted(set(..)) over data. -/
namespace DL
open PySem PySem.Spec PyProof.Rows L2
variable [TabsC]
section
variable {X : Cx} {W : WX} {a b c e e2 o : Expr} {es : List Expr} {ba bb : Bool} {ma mb mc : TM} {la : LM} {pos p p2 pos2 : Pos} {x y : Str} {k : Nat}
def rSetL (K : PySem.W.Frag) (w : World) : List V → Hp → VK → Prop := fun xs H Q => ∃ (a : Addr) (ns : List Int), xs = [V.ref a] ∧ (SqL K H a (ns.map V.int) ∨ SqT K H a (ns.map V.int)) ∧ ns.length < 64 ∧
  ∀ (p : Addr) (c : Nat), H p = none → c ≤ ns.length → Q (.ref p) (upd H p (SetO w p (fun j => decide (j ∈ ns)) c))
theorem cr_setL (hc : X.calm = true) : CallR X (.type "set") (rSetL X.K X.w) := by
  intro pins s σ H xs us Q I r h
  obtain ⟨a, ns, rfl, hs, hn, q⟩ := h
  rw [Vals.ref1 r]
  have room : ns.length + 1 < scanBound := by unfold scanBound; omega
  rcases hs with hs | hs
  · obtain ⟨its, rv, ht, hz⟩ := I.list hs
    refine set_of_list ns (I.ok.hd hc) ht.isList (intsAre_of rv) room fun g tk c R le kept => ?_
    exact ⟨.ref _, _, I.laid (t' := tk) kept (Nat.le_refl _) (setO_new R), rfl, q _ c (I.hok.fresh (Nat.le_refl _)) le⟩
  · obtain ⟨its, rv, ht, hz⟩ := I.tuple hs
    refine call_set_tupI ns (I.ok.hd hc) (show s.heap.IsTuple a its.toArray from ht) (intsAre_of rv) room fun g tk c R le kept => ?_
    exact ⟨.ref _, _, I.laid (t' := tk) kept (Nat.le_refl _) (setO_new R), rfl, q _ c (I.hok.fresh (Nat.le_refl _)) le⟩
def fSortSet (ds : List D) (Q : D → Prop) : Prop := ∃ ns : List Int, (ds = [.list (ns.map .int)] ∨ ds = [.tup (ns.map .int)]) ∧ ns.length < 64 ∧ ∀ ms : List Int, ms.Pairwise (· < ·) → (∀ k : Int, k ∈ ms ↔ k ∈ ns) → ms.length ≤ ns.length → Q (.list (ms.map .int))
theorem link_sortSet : LinkF X.K (fun vs H Q => rSetL X.K X.w vs H fun p H2 => rSortedSet X.w [p] H2 Q) fSortSet := by
  intro fo ls H vs ds P Q ht r ⟨ns, e, hl, h⟩ q
  have key : ∀ a : Addr, (SqL X.K H a (ns.map V.int) ∨ SqT X.K H a (ns.map V.int)) → rSetL X.K X.w [.ref a] H fun p H2 => rSortedSet X.w [p] H2 Q := fun a ha =>
    ⟨a, ns, rfl, ha, hl, fun p c hp hc => ⟨p, _, c, rfl, upd_same, by omega, fun ms l m1 m2 m3 hl' => by
      have hlp : l ≠ p := fun z => by
        rw [z] at hl'
        rw [upd_same] at hl'
        cases hl'
      have hl0 : H l = none := by rw [upd_ne hlp] at hl'; exact hl'
      exact q _ _ _ (h ms m1 (fun k => by rw [m2 k]; simp) (by omega)) hl0 ((same_upd hp).trans (same_upd hl')) (.l upd_same (by rw [List.length_map, m3, sizeLine_eq]; omega) (Reps.ints ms))⟩⟩
  rcases e with rfl | rfl
  · obtain ⟨v, rfl, rr⟩ := r.one
    obtain ⟨a, xs, rfl, h1, h2, h3⟩ := rr.list
    have ex := h3.of_ints
    subst ex
    exact key a (.inl (.of h1))
  · obtain ⟨v, rfl, rr⟩ := r.one
    obtain ⟨a, xs, rfl, h1, h2, h3⟩ := rr.tup
    have ex := h3.of_ints
    subst ex
    exact key a (.inr h1)
theorem df_sortSet (hc : X.calm = true) (hg : Gl X "sorted") (hm : X.mg "sorted" = none) (hv : bootBuiltins "sorted" = some (.builtin "sorted")) (hg2 : Gl X "set") (hm2 : X.mg "set" = none) (hv2 : bootBuiltins "set" = some (.type "set")) (ha : DA X W [e] ba la)
    (he : starEach [e] X.env = [(false, eval e X.env)] := by rfl) (he2 : starEach [.Call (.Name "set" p2) [e] [] pos2] X.env = [(false, eval (.Call (.Name "set" p2) [e] [] pos2) X.env)] := by rfl) :
    DF X W (.Call (.Name "sorted" p) [.Call (.Name "set" p2) [e] [] pos2] [] pos) (mB fSortSet la) :=
  PE.imp (pe_callB (cr_sortedSet hc) hg hm hv (pa_cons (pe_callTy (cr_setL hc) hg2 hm2 hv2 ha (by decide) (by decide) he (by rfl)) pa_nil he2) (by decide) (by decide) he2 (by rfl)) fun _ _ _ h => link_f (link_sortSet) h
/-! ### a op b op c op d -/
def mChain3 (f g h : D → D → (Bool → Prop) → Prop) (ma mb mc md : TM) : TM := fun δ Q E => ma δ (fun x => mb δ (fun y => f x y fun c => if c = true then mc δ (fun z => g y z fun c' => if c' = true then md δ (fun v => h z v fun c => Q (.bool c)) E else Q (.bool false)) E else Q (.bool false)) E) E
/-! ### tuple(range(..)) -/
def mTupRg1 (ma : TM) : TM := fun δ Q E => ma δ (fun d => ∃ j : Int, d = .int j ∧ RgOk 0 j ∧ Q (.tup (rangeD 0 j.toNat))) E
def mTupRg2 (ma mb : TM) : TM := fun δ Q E => ma δ (fun d => mb δ (fun d' => ∃ i j : Int, d = .int i ∧ d' = .int j ∧ RgOk i j ∧ Q (.tup (rangeD i (j - i).toNat))) E) E
end
end DL
set_option Elab.async false
set_option linter.all false
set_option maxRecDepth 100000
set_option maxHeartbeats 4000000
/-! DL16: neighbours in a row of ints; loops that give back early. -/
namespace DL
open PySem PySem.Spec PyProof.Rows L2
variable [TabsC]
/-- the neighbours -/
def nb : List Int → List (Int × Int)
  | x :: y :: r => (x, y) :: nb (y :: r)
  | _ => []
def pairD (p : Int × Int) : D := .tup [.int p.1, .int p.2]
theorem cut_tail (xs : List D) : cutL xs (some 1) none = xs.drop 1 := by
  unfold cutL
  rw [show HT.sIx xs.length 0 (some 1) = min 1 xs.length from HT.sIx_nat xs.length 0 1, HT.sIx_none]
  cases xs with
  | nil => rfl
  | cons x r =>
    have e : min 1 (x :: r).length = 1 := by rw [List.length_cons]; omega
    rw [e, List.take_of_length_le]
    rw [List.length_drop]
    omega
theorem nb_get : ∀ (ns : List Int), nb ns = (List.range (ns.length - 1)).map fun i => (ns.getD i 0, ns.getD (i + 1) 0)
  | [] => rfl
  | [x] => rfl
  | x :: y :: r => by
    have ih := nb_get (y :: r)
    simp only [nb]
    rw [ih]
    simp only [List.length_cons, Nat.add_sub_cancel]
    rw [List.range_succ_eq_map, List.map_cons, List.map_map]
    rfl
theorem atI_last {ns : List Int} (h : ns ≠ []) : atI (ns.map D.int) (-1) = some (.int (ns.getLastD 0)) := by
  unfold atI
  have hl : 0 < ns.length := List.length_pos_iff.mpr h
  rw [List.length_map]
  have : ∀ (xs : List Int), xs ≠ [] → (xs.map D.int)[xs.length - 1]? = some (.int (xs.getLastD 0)) := fun xs hx => by
    rw [List.getElem?_map, ← List.getLast?_eq_getElem?, List.getLastD_eq_getLast?, List.getLast?_eq_some_getLast hx]
    rfl
  have t := this ns h
  rw [show ixN ns.length (-1) = some (ns.length - 1) from by
    unfold ixN
    rw [if_neg (by decide), if_pos (by omega)]
    congr 1
    omega]
  exact t
def gapL (ns : List Int) : Option (Int × Int) := (nb ns).find? fun p => decide (p.2 % p.1 ≠ 0)
def ascL (ns : List Int) : Bool := (nb ns).all fun p => decide (p.1 < p.2)
theorem log2_ok {n k : Nat} (hk : 0 < k) (h : n < 2 ^ k) : n.log2 < k := by
  by_cases h0 : n = 0
  · subst h0; exact hk
  · exact (Nat.log2_lt h0).mpr h
theorem log2_lim {i : Int} (h : -(10 ^ 240) < i) (h' : i < 10 ^ 240) : i.natAbs.log2 < 1000 := by
  refine log2_ok (by decide) ?_
  have b : (10 : Int) ^ 240 < 2 ^ 1000 := by decide +kernel
  have : ((i.natAbs : Nat) : Int) < 2 ^ 1000 := by
    generalize (10 : Int) ^ 240 = A at *
    generalize (2 : Int) ^ 1000 = B at *
    omega
  exact_mod_cast this
section
variable {i j : Int} {p q : Bool} {R : Bool → Prop}
theorem e_fEq_i : fEq (.int i) (.int j) R = R (decide (i = j)) := propext ⟨fun h => by have := h.2.2; rw [eqD_int] at this; exact this, fun h => ⟨fineN_int.fine (n := 0) (by decide), fineN_int.fine (n := 0) (by decide), by rw [eqD_int]; exact h⟩⟩
theorem e_fNe_i : fNe (.int i) (.int j) R = R (!decide (i = j)) := propext ⟨fun h => by have := h.2.2; rw [eqD_int] at this; exact this, fun h => ⟨fineN_int.fine (n := 0) (by decide), fineN_int.fine (n := 0) (by decide), by rw [eqD_int]; exact h⟩⟩
theorem beq_dec (p q : Bool) : (p == q) = decide (p = q) := by cases p <;> cases q <;> rfl
theorem e_fEq_b : fEq (.bool p) (.bool q) R = R (decide (p = q)) := propext ⟨fun h => by have := h.2.2; rw [eqD_bool, beq_dec] at this; exact this, fun h => ⟨fineN_bool.fine (n := 0) (by decide), fineN_bool.fine (n := 0) (by decide), by rw [eqD_bool, beq_dec]; exact h⟩⟩
theorem e_fNe_b : fNe (.bool p) (.bool q) R = R (!decide (p = q)) := propext ⟨fun h => by have := h.2.2; rw [eqD_bool, beq_dec] at this; exact this, fun h => ⟨fineN_bool.fine (n := 0) (by decide), fineN_bool.fine (n := 0) (by decide), by rw [eqD_bool, beq_dec]; exact h⟩⟩
end
theorem ex2 {α β : Type} {a : α} {b : β} {P : α → β → Prop} : (∃ x y, (a = x ∧ b = y) ∧ P x y) = P a b := propext ⟨fun ⟨_, _, ⟨e, e'⟩, h⟩ => by subst e e'; exact h, fun h => ⟨a, b, ⟨rfl, rfl⟩, h⟩⟩
theorem nb_append : ∀ {ns : List Int} {z : Int}, ns ≠ [] → nb (ns ++ [z]) = nb ns ++ [(ns.getLastD 0, z)]
  | [x], z, _ => rfl
  | x :: y :: r, z, _ => by
    have ih := nb_append (ns := y :: r) (z := z) (by simp)
    show (x, y) :: nb ((y :: r) ++ [z]) = (x, y) :: nb (y :: r) ++ _
    rw [ih]
    rfl
theorem asc_append {ns : List Int} {z : Int} (h0 : ns ≠ []) (h : ascL ns = true) (hz : ns.getLastD 0 < z) : ascL (ns ++ [z]) = true := by
  unfold ascL at *
  rw [nb_append h0, List.all_append, h]
  simpa using hz
theorem gap_append {ns : List Int} {z : Int} (h0 : ns ≠ []) (h : gapL ns = none) (hz : z % ns.getLastD 0 = 0) : gapL (ns ++ [z]) = none := by
  unfold gapL at *
  rw [nb_append h0, List.find?_append, h]
  rw [Option.none_or, List.find?_cons_of_neg (by intro c; exact of_decide_eq_true c hz)]
  rfl
theorem last_mem {ns : List Int} (h : ns ≠ []) : ns.getLastD 0 ∈ ns := by
  rw [List.getLastD_eq_getLast?, List.getLast?_eq_some_getLast h]
  exact List.getLast_mem h
theorem asc_pair {ns : List Int} (h : ns.Pairwise (· < ·)) : ascL ns = true := by
  unfold ascL
  rw [nb_get, List.all_eq_true]
  intro p hp
  obtain ⟨i, hi, rfl⟩ := List.mem_map.mp hp
  have hi := List.mem_range.mp hi
  have h1 : i + 1 < ns.length := by omega
  have := List.pairwise_iff_getElem.mp h i (i + 1) (by omega) h1 (by omega)
  simp only [decide_eq_true_eq, List.getD_eq_getElem?_getD, List.getElem?_eq_getElem h1, List.getElem?_eq_getElem (show i < ns.length by omega), Option.getD_some]
  exact this
theorem e_nn : isNoneD .none = true := rfl
theorem e_nt {xs : List D} : isNoneD (.tup xs) = false := rfl
theorem e_nl {xs : List D} : isNoneD (.list xs) = false := rfl
theorem e_ni {i : Int} : isNoneD (.int i) = false := rfl
end DL
set_option Elab.async false
set_option linter.all false
set_option maxRecDepth 100000
set_option maxHeartbeats 4000000
/-! DL17: zip of a tuple and a list. -/
namespace DL
open PySem PySem.Spec PyProof.Rows L2
variable [TabsC]
section
variable {X : Cx} {W : WX} {e e2 : Expr} {ba : Bool} {la : LM} {p pos : Pos}
def mZipM (la : LM) : LM := fun δ P E => la δ (fun ds => ∃ xs ys, ds = [.tup xs, .list ys] ∧ P (zipD xs ys)) E
/-! ### < of tuples of ints -/
end
end DL
set_option Elab.async false
set_option linter.all false
set_option maxRecDepth 100000
set_option maxHeartbeats 4000000
/-! DL18: figures over a chain, the greatest size first. -/
namespace DL
open PySem PySem.Spec PyProof.Rows L2
variable [TabsC]
theorem mul_lim {i j : Int} (h1 : -(10 ^ 240) < i) (h2 : i < 10 ^ 240) (h3 : -(10 ^ 240) < j) (h4 : j < 10 ^ 240) : IntMulOk i j := CMulW.ok (by
  have a := log2_lim h1 h2
  have b := log2_lim h3 h4
  unfold CMulW
  omega)
theorem atI_0 {x : D} {r : List D} : atI (x :: r) 0 = some x := by
  unfold atI ixN
  rw [if_pos (by decide), if_pos (by rw [List.length_cons]; omega)]
  rfl
theorem atI_1 {x y : D} {r : List D} : atI (x :: y :: r) 1 = some y := by
  unfold atI ixN
  rw [if_pos (by decide), if_pos (by rw [List.length_cons, List.length_cons]; omega)]
  rfl
theorem cut_01 {x : D} {r : List D} : cutL (x :: r) none (some 1) = [x] := by
  unfold cutL
  rw [HT.sIx_none, show HT.sIx (x :: r).length (x :: r).length (some 1) = min 1 (x :: r).length from HT.sIx_nat _ _ 1, show min 1 (x :: r).length = 1 by rw [List.length_cons]; omega]
  rfl
/-- a comprehension whose items are drawn, each by its turn -/
theorem compL_each {g : GM} {mt : BM} {me : TM} {δ0 : List DV} (p : D → D → Prop) : ∀ {ds : List D}, (∀ d, d ∈ ds → ∀ (R : D → Prop) (S : Prop), (∀ y, p d y → R y) → g d δ0 fun δ' => mt δ' (fun b => if b = true then me δ' R NoE else S) NoE) →
    ∀ {acc : List D} {Q : D → Prop}, (∀ ys : List D, ys.length = ds.length → (∀ (i : Nat) (d y : D), ds[i]? = some d → ys[i]? = some y → p d y) → Q (.list (acc ++ ys))) → compL g mt me δ0 ds acc Q := by
  intro ds
  induction ds with
  | nil =>
    intro _ acc Q q
    have := q [] rfl (fun i d y e => by cases e)
    simpa [compL] using this
  | cons d ds ih =>
    intro h acc Q q
    unfold compL
    refine h d List.mem_cons_self _ _ fun y hy => ?_
    refine ih (fun d' h' => h d' (List.mem_cons_of_mem _ h')) fun ys hl hp => ?_
    have := q (y :: ys) (by rw [List.length_cons, List.length_cons, hl]) (fun i d' y' e1 e2 => by
      cases i with
      | zero => cases e1; cases e2; exact hy
      | succ i => exact hp i d' y' e1 e2)
    simpa using this
theorem atI_end {xs : List D} {y : D} : atI (xs ++ [y]) (-1) = some y := by
  unfold atI ixN
  rw [if_neg (by decide), if_pos (by rw [List.length_append, List.length_singleton]; omega)]
  show (xs ++ [y])[((-1 : Int) + ((xs ++ [y]).length : Int)).toNat]? = some y
  rw [show ((-1 : Int) + ((xs ++ [y]).length : Int)).toNat = xs.length by rw [List.length_append, List.length_singleton]; omega, List.getElem?_append_right (Nat.le_refl _), Nat.sub_self]
  rfl
end DL
set_option Elab.async false
set_option linter.all false
set_option maxRecDepth 100000
set_option maxHeartbeats 4000000
/-! DL19: stars in displays; max(.., key=len) of tuples, with a default or without. -/
namespace DL
open PySem PySem.Spec PyProof.Rows L2
variable [TabsC]
section
variable {X : Cx} {W : WX} {a b c e e2 o : Expr} {es : List Expr} {ba bb : Bool} {ma mb mc : TM} {la : LM} {pos p p2 pos2 : Pos} {x y : Str} {k : Nat}
/-! ### *e -/
def mStar (ma : TM) (la : LM) : LM := fun δ P E => ma δ (fun d => ∃ xs, (d = .tup xs ∨ d = .list xs) ∧ la δ (fun ds => P (xs ++ ds)) E) E
theorem RVs.of_reps {K : PySem.W.Frag} {fo ls : List Addr} {H : Hp} {b : Bool} : ∀ {vs : List V} {ds : List D}, Reps K (sub H ls) vs ds → RVs K fo ls H b vs ds
  | _, _, .nil => .nil
  | _, _, .cons r t => .cons (.cl r) (RVs.of_reps t)
theorem RVs.append {K : PySem.W.Frag} {fo ls : List Addr} {H : Hp} {b : Bool} : ∀ {vs ws : List V} {ds es : List D}, RVs K fo ls H b vs ds → RVs K fo ls H b ws es → RVs K fo ls H b (vs ++ ws) (ds ++ es)
  | _, _, _, _, .nil, h => h
  | _, _, _, _, .cons r t, h => .cons r (RVs.append t h)
theorem da_star {pp : Pos} (ha : DE X W e ba ma) (hr : DA X W es bb la) (hs : starEach (.Starred e pp :: es) X.env = (true, eval e X.env) :: starEach es X.env := by rfl) : DA X W (.Starred e pp :: es) bb (mStar ma la) :=
  PA.imp (StX.pa_star ha hr hs) fun σ H Q ⟨F, own, δ, P, EK, A, m, q⟩ => ⟨F, own, δ, _, EK, A, m, fun d v H1 ⟨xs, ed, m1⟩ s1 r1 => by
    rcases ed with rfl | rfl
    · obtain ⟨a, vs, rfl, h1, h2, h3⟩ := r1.tup
      exact ⟨a, vs, rfl, .inl h1, F, own, δ, _, EK, A.on s1, m1, fun ds ws H2 m2 s2 r2 => q _ _ H2 m2 (s1.trans s2) ((RVs.of_reps (h3.mono (sub_same s2))).append r2)⟩
    · obtain ⟨a, vs, rfl, h1, h2, h3⟩ := r1.list
      exact ⟨a, vs, rfl, .inr (.of h1), F, own, δ, _, EK, A.on s1, m1, fun ds ws H2 m2 s2 r2 => q _ _ H2 m2 (s1.trans s2) ((RVs.of_reps (h3.mono (sub_same s2))).append r2)⟩⟩
/-! ### max by length -/
/-! over data -/
def LongestD (ts : List (List D)) (i : Nat) : Prop := i < ts.length ∧ (∀ j, j < ts.length → (ts.getD j []).length ≤ (ts.getD i []).length) ∧ ∀ j, j < i → (ts.getD j []).length < (ts.getD i []).length
def mMaxLenD (la : LM) (md : TM) : TM := fun δ Q E => la δ (fun ds => md δ (fun d => ∃ ts : List (List D), ds = [.list (ts.map .tup)] ∧ (ts = [] → Q d) ∧ ∀ i, LongestD ts i → Q (.tup (ts.getD i []))) E) E
end
end DL
set_option Elab.async false
set_option linter.all false
set_option maxRecDepth 100000
set_option maxHeartbeats 4000000
/-! DL20: dicts: d[k] = e, d[k], comprehensions over a dict's keys. -/
namespace DL
open PySem PySem.Spec PyProof.Rows L2
variable [TabsC]
theorem RepKs.len {K : PySem.W.Frag} {H : Hp} : ∀ {vs : List (Key × V)} {ds : List (Key × D)}, RepKs K H vs ds → vs.length = ds.length
  | _, _, .nil => rfl
  | _, _, .cons _ r => by rw [List.length_cons, List.length_cons, RepKs.len r]
theorem kV_of {K : PySem.W.Frag} {fo ls : List Addr} {H : Hp} {b : Bool} {v : V} {k : Key} (r : RV K fo ls H b v (keyD k)) : v = kV k := by
  cases k with
  | inl i => exact r.isInt
  | inr z => exact r.isStr
theorem putK_len (kvs : List (Key × V)) (k : Key) (v : V) : (putK kvs k v).length ≤ kvs.length + 1 := by
  unfold putK
  split
  · rw [List.length_map]; omega
  · rw [List.length_append, List.length_singleton]; omega
section
variable {X : Cx} {W : WX} {a b c e e2 o : Expr} {es : List Expr} {ba bb : Bool} {ma mb mc mk : TM} {la : LM} {pos p p2 pos2 : Pos} {x y : Str} {k : Nat}
/-! ### d[k] = e -/
def sPut (i : Nat) (mk mv : TM) : SM := fun δ κ => mv δ (fun v => ∃ ds, δ[i]? = some (.m (.dict ds)) ∧ mk δ (fun kd => ∃ key : Key, kd = keyD key ∧ ds.length < sizeLine ∧ κ.nx (δ.set i (.m (.dict (putD ds key v))))) (κ.er δ)) (κ.er δ)
theorem ds_put (i : Nat) {ie : Expr} {p1 : Pos} (hu : X.A.units + 1 < cLine) (ho : PE X (.Name x p) (tVar i)) (hi : DE X W ie bb mk) (hv : DE X W e false ma) (hs : swapsWith e (some (.Subscript (.Name x p) ie p1)) pos.line X.env = pure false := by rfl) :
    DS X W (.Assign [.Subscript (.Name x p) ie p1] e pos) (sPut i mk ma) :=
  PS.imp (ps_dput hu ho hi hv hs) fun D σ H ⟨F, own, δ, κ, E, h, L⟩ => by
    refine ⟨F, own, δ, _, _, L.at E, h, fun d v H1 ⟨ds, hd, m1⟩ s1 r1 => ?_⟩
    have E1 := E.grow s1
    obtain ⟨a, kvs, e1, ha, h1, h2, h3⟩ := E1.dic hd
    refine ⟨_, e1, F, own, δ, _, _, (L.at E).on s1, m1, fun kd kv H2 ⟨key, ek, hz, m2⟩ s2 r2 => ?_⟩
    subst ek
    have ekv := kV_of r2
    subst ekv
    have h1' := s2 _ _ h1
    have hz' : kvs.length < sizeLine := by rw [h3.len]; exact hz
    refine ⟨a, _, rfl, .inl ⟨kvs, key, h1', rfl, hz', rfl⟩, L.nx _ _ own _ ((E1.grow s2).put hd e1 h1' (.md (E.sep a ha) upd_same ?_ ?_)) m2⟩
    · have := putK_len kvs key v
      omega
    · rw [sub_upd (List.mem_append_right _ ha)]
      exact (h3.mono (sub_same s2)).put (r1.clean.mono (sub_same s2))
/-! ### d[k] -/
def mDGet (ma mk : TM) : TM := fun δ Q E => ma δ (fun d => mk δ (fun kd => ∃ ds : List (Key × D), d = .dict ds ∧ ∃ key : Key, kd = keyD key ∧ ∃ v : D, valD ds key = some v ∧ Q v) E) E
theorem de_dget {ie : Expr} (hu : X.A.units + 1 < cLine) (ho : DE X W o ba ma) (hi : DE X W ie bb mk) (hs : NoSl ie) : DE X W (.Subscript o ie pos) false (mDGet ma mk) :=
  PE.imp (pe_dget hu ho hi hs) fun σ H Q ⟨F, own, δ, P, EK, A, m, q⟩ => ⟨F, own, δ, _, EK, A, m, fun d v H1 m1 s1 r1 => ⟨F, own, δ, _, EK, A.on s1, m1, fun kd kv H2 ⟨ds, ed, key, ek, w, hv, m2⟩ s2 r2 => by
    subst ed ek
    have ekv := kV_of r2
    subst ekv
    obtain ⟨a, kvs, rfl, h1, h2, h3⟩ := (r1.mono s2.ob).dict
    obtain ⟨u, hu', ru⟩ := h3.val key hv
    exact ⟨a, u, rfl, .inl ⟨kvs, key, h1, rfl, hu'.symm⟩, q _ _ H2 m2 (s1.trans s2) (.cl ru)⟩⟩⟩
end
/-! ### d.get(k), d.get(k, e) -/
def mDGet2 (ma mk mv : TM) : TM := fun δ Q E => ma δ (fun d => ∃ ds : List (Key × D), d = .dict ds ∧ mk δ (fun kd => mv δ (fun v => ∃ key : Key, kd = keyD key ∧ Q ((valD ds key).getD v)) E) E) E
theorem de_dget2 {apos : Pos} (hu : X.A.units + 1 < cLine) (ho : DE X W o ba ma) (hi : DE X W e bb mk) (hv : DE X W e2 false mc) (m : M2 X o "get" apos e e2 pos) : DE X W (.Call (.Attribute o "get" apos) [e, e2] [] pos) false (mDGet2 ma mk mc) :=
  PE.imp (pe_dget2 hu ho hi hv m) fun σ H Q ⟨F, own, δ, P, EK, A, mm, q⟩ => ⟨F, own, δ, _, EK, A, mm, fun d v H1 ⟨ds, ed, m1⟩ s1 r1 => by
    subst ed
    obtain ⟨a, kvs, rfl, h1, h2, h3⟩ := r1.dict
    refine ⟨a, rfl, .inl ⟨kvs, h1⟩, F, own, δ, _, EK, A.on s1, m1, fun kd kv H2 m2 s2 r2 => ⟨F, own, δ, _, EK, A.on (s1.trans s2), m2, fun vd vv H3 ⟨key, ek, m3⟩ s3 r3 => ?_⟩⟩
    subst ek
    have ekv := kV_of r2
    subst ekv
    have h1' := rdMono (s2.trans s3).ob h1
    have h3' := h3.mono (sub_same (s2.trans s3).ob)
    refine ⟨valV kvs key, .inl ⟨kvs, key, h1', rfl, rfl⟩, ?_⟩
    cases e : valD ds key with
    | some w =>
      rw [e] at m3
      obtain ⟨u, hu', ru⟩ := h3'.val key e
      rw [hu']
      exact q _ _ H3 m3 ((s1.trans s2).trans s3) (.cl ru)
    | none =>
      rw [e] at m3
      rw [h3'.none key e]
      exact q _ _ H3 m3 ((s1.trans s2).trans s3) r3⟩
/-! ### the lock -/
theorem itok_keys {K : PySem.W.Frag} {Hg Hb Hr : Hp} {a : Addr} {od : Obj} {kvs : List (Key × V)} {ds : List (Key × D)} (h : Hg a = some (.frz od (.dK kvs))) (hz : kvs.length ≤ sizeLine) (r : RepKs K Hr kvs ds) : ItOk K (Itk a od kvs) Hg Hb (ds.map fun kv => keyD kv.1) where
  sz := by rw [List.length_map, ← r.len]; exact hz
  go := fun i H s hi => ⟨s _ _ h, by rw [List.length_map, ← r.len] at hi; exact hi⟩
  stop := fun i H s hi => ⟨s _ _ h, by rw [List.length_map, ← r.len] at hi; omega⟩
  yld := fun i H x H' ls s sb ht hi ⟨eH, k, v, ek, ex⟩ => by
    subst eH ex
    have key : ∀ {vs : List (Key × V)} {es : List (Key × D)} (n : Nat), RepKs K Hr vs es → vs[n]? = some (k, v) → (es.map fun kv => keyD kv.1)[n]? = some (keyD k) := fun {vs es} => by
      induction vs generalizing es with
      | nil => intro n _ z; simp at z
      | cons w vs ih =>
        intro n r z
        cases r with
        | cons h1 rt =>
          cases n with
          | zero => cases z; rfl
          | succ n => exact ih n rt (by simpa using z)
    refine ⟨keyD k, key i r ek, Same.refl _, ?_⟩
    cases k with
    | inl i => exact .int i
    | inr z => exact .str z
section
variable {X : Cx} {W : WX} {pos p : Pos} {x : Str}
/-- [elt for tg in d if ..], d one's own dict; what comes are ints -/
def mCompK (i : Nat) (vs : List Nat) (g : GM) (mt : BM) (me : TM) : TM := fun δ Q E => ∃ ds : List (Key × D), δ[i]? = some (.m (.dict ds)) ∧ compL g mt me (wipeD (δ.set i (.v (.dict ds))) vs) (ds.map fun kv => keyD kv.1) [] (fun d => ∃ ns : List Int, d = .list (ns.map .int) ∧ Q d)
end
/-! ### walks over a dict that stays -/
theorem RepKs.get {K : PySem.W.Frag} {H : Hp} : ∀ {vs : List (Key × V)} {ds : List (Key × D)} {i : Nat} {k : Key} {v : V}, RepKs K H vs ds → vs[i]? = some (k, v) → ∃ d, ds[i]? = some (k, d) ∧ Rep K H v d
  | _, _, _, _, _, .nil, e => by simp at e
  | _, _, 0, _, _, .cons r _, e => by cases e; exact ⟨_, rfl, r⟩
  | _, _, i + 1, _, _, .cons _ t, e => by
    obtain ⟨d, h1, h2⟩ := RepKs.get (i := i) t (by simpa using e)
    exact ⟨d, by simpa using h1, h2⟩
def pairKD (kv : Key × D) : D := .tup [keyD kv.1, kv.2]
theorem RV.plainDict {K : PySem.W.Frag} {fo ls : List Addr} {H : Hp} {v : V} {ds : List (Key × D)} (r : RV K fo ls H false v (.dict ds)) : ∃ a od kvs, v = .ref a ∧ sub H ls a = some (.frz od (.dK kvs)) ∧ kvs.length ≤ sizeLine ∧ RepKs K (sub H ls) kvs ds := by
  cases r with
  | cl r =>
    cases r with
    | dict h l r => exact ⟨_, _, _, rfl, h, l, r⟩
theorem flo_at {H : Hp} {ls : List Addr} {a : Addr} {u : HO} {b : Bool} (h : sub H ls a = some u) (n : isTbl u = false := by rfl) : flo b H ls a = some u := by
  unfold flo
  split
  · exact sub_le.get _ _ h n
  · exact h
def mKeys (ma : TM) : LM := fun δ P E => ma δ (fun d => ∃ ds : List (Key × D), d = .dict ds ∧ P (ds.map fun kv => keyD kv.1)) E
def mVals (ma : TM) : LM := fun δ P E => ma δ (fun d => ∃ ds : List (Key × D), d = .dict ds ∧ P (ds.map (·.2))) E
def mItems (ma : TM) : LM := fun δ P E => ma δ (fun d => ∃ ds : List (Key × D), d = .dict ds ∧ P (ds.map pairKD)) E
section
variable {X : Cx} {W : WX} {e tg : Expr} {ba : Bool} {ma : TM} {apos cpos : Pos}
theorem di_keys (he : DE X W e false ma) : DI X W tg e ba (mKeys ma) :=
  PI.imp (pi_keys he) fun σ H R ⟨F, own, δ, P, EK, A, m, q⟩ => ⟨F, own, δ, _, EK, A, m, fun d v H1 ⟨ds, ed, p⟩ s r => by
    subst ed
    obtain ⟨a, od, kvs, rfl, h1, h2, h3⟩ := r.plainDict
    exact ⟨a, od, rfl, .inl ⟨kvs, sub_le _ _ h1, q _ _ H1 p s (itok_keys (flo_at h1) h2 h3)⟩⟩⟩
end
end DL
set_option Elab.async false
set_option linter.all false
set_option maxRecDepth 100000
set_option maxHeartbeats 4000000
/-! DL21: instances of own classes: fields, methods, properties, making. -/
namespace DL
open PySem PySem.Spec PyProof.Rows L2
variable [TabsC]
theorem RV.obj {K : PySem.W.Frag} {fo ls : List Addr} {H : Hp} {b : Bool} {v : V} {n : Str} {ds : List (Str × D)} (r : RV K fo ls H b v (.obj n ds)) : ∃ C a dx fs, PySem.W.nsIn K mainGlobals n = some (some (.ref C)) ∧ v = .ref a ∧ H a = some (.ins C dx fs) ∧ RepFs K (sub H ls) fs ds := by
  cases r with
  | cl r =>
    cases r with
    | obj c h r => exact ⟨_, _, _, _, c, rfl, sub_le _ _ h, r⟩
  | mo _ c h r => exact ⟨_, _, _, _, c, rfl, h, r⟩
theorem RepFs.get {K : PySem.W.Frag} {H : Hp} {f : Str} : ∀ {vs : List (Str × V)} {ds : List (Str × D)} {d : D}, RepFs K H vs ds → ds.lookup f = some d → ∃ v, vs.lookup f = some v ∧ Rep K H v d
  | _, _, _, .nil, e => by cases e
  | _, _, _, @RepFs.cons _ _ g v vs d ds h r, e => by
    rw [List.lookup_cons] at e ⊢
    cases hb : f == g with
    | true =>
      rw [hb] at e
      cases e
      exact ⟨v, rfl, h⟩
    | false =>
      rw [hb] at e
      exact RepFs.get r e
theorem RepFs.len {K : PySem.W.Frag} {H : Hp} : ∀ {vs : List (Str × V)} {ds : List (Str × D)}, RepFs K H vs ds → vs.length = ds.length
  | _, _, .nil => rfl
  | _, _, .cons _ r => by rw [List.length_cons, List.length_cons, RepFs.len r]
def putFD (f : Str) (y : D) : List (Str × D) → List (Str × D)
  | [] => [(f, y)]
  | (g, x) :: r => if g = f then (g, y) :: r else (g, x) :: putFD f y r
theorem RepFs.put {K : PySem.W.Frag} {H : Hp} {f : Str} {y : V} {d : D} (h : Rep K H y d) : ∀ {vs : List (Str × V)} {ds : List (Str × D)}, RepFs K H vs ds → RepFs K H (putF f y vs) (putFD f d ds)
  | _, _, .nil => .cons h .nil
  | _, _, @RepFs.cons _ _ g v vs d' ds h' r => by
    unfold putF putFD
    by_cases e : g = f
    · rw [if_pos e, if_pos e]; exact .cons h r
    · rw [if_neg e, if_neg e]; exact .cons h' (RepFs.put h r)
section
variable {X : Cx} {W : WX} {a b c e e2 o : Expr} {es : List Expr} {ba bb : Bool} {ma mb mo : TM} {la : LM} {pos p apos : Pos} {n f mn x : Str} {k : Nat} {C g q0 : Addr} {m : FM} {mm : MM}
/-! ### e.f -/
def mFld (n : Str) (ma : TM) (f : Str) : TM := fun δ Q E => ma δ (fun d => ∃ ds : List (Str × D), d = .obj n ds ∧ ∃ v : D, ds.lookup f = some v ∧ Q v) E
/-- self.f of a self that is lent -/
def mSFld (i : Nat) (n f : Str) : TM := fun δ Q _ => ∃ ds : List (Str × D), δ[i]? = some (.s (.obj n ds)) ∧ ∃ v : D, ds.lookup f = some v ∧ Q v
/-! ### o.f = e, o one's own or lent -/
def sFld (i : Nat) (n f : Str) (ma : TM) : SM := fun δ k => ma δ (fun v => ∃ ds : List (Str × D), ds.length < 900 ∧ ((δ[i]? = some (.s (.obj n ds)) ∧ k.nx (δ.set i (.s (.obj n (putFD f v ds))))) ∨ (δ[i]? = some (.m (.obj n ds)) ∧ k.nx (δ.set i (.m (.obj n (putFD f v ds))))))) (k.er δ)
/-! ### o.m(e, ..), o plain -/
def mMeth (n mn : Str) (m : FM) (mo : TM) (la : LM) : TM := fun δ Q E => mo δ (fun d => ∃ fs : List (Str × D), d = .obj n fs ∧ fs.lookup mn = none ∧ la δ (fun ds => m (d :: ds) Q E) E) E
def mMeth0 (n mn : Str) (m : FM) (mo : TM) : TM := fun δ Q E => mo δ (fun d => ∃ fs : List (Str × D), d = .obj n fs ∧ fs.lookup mn = none ∧ m [d] Q E) E
/-! ### e.f, a property -/
def mProp (n : Str) (m : FM) (ma : TM) : TM := fun δ Q E => ma δ (fun d => ∃ fs : List (Str × D), d = .obj n fs ∧ m [d] Q NoE) E
theorem CR_none {P : Program} {w : World} {outer : List Env} {H : Hp} {s s' : Shared} {Q : VK} {e : Value} {E : XK} (hE : ∀ cls dd H', ¬ E cls dd H') (h : CR (L2.CX P w) outer P w H s Q E (.error e) s') : False := by
  obtain ⟨_, _, _, _, _, _, _, _, _, _, _, _, z⟩ := h
  exact hE _ _ _ z
/-! ### C(e, ..) -/
def mMake (n : Str) (m : MM) (la : LM) : TM := fun δ Q E => la δ (fun ds => m (.obj n []) ds (fun d r => r = .none ∧ Q d) (fun _ er => E er)) E
theorem new_ins {K : PySem.W.Frag} {H : Hp} {x dx C : Addr} {ls : List Addr} (nx : H x = none) (nd : H dx = none) (ne : dx ≠ x) (ht : ∀ l, l ∈ ls → ∃ o, H l = some o ∧ Plain o) : Same H (upd (upd H dx (.own x)) x (.ins C dx [])) ∧ Grow (sub H ls) (sub (upd (upd H dx (.own x)) x (.ins C dx [])) (x :: ls)) := by
  have s : Same H (upd (upd H dx (.own x)) x (.ins C dx [])) := Same.of fun b o q => by
    rw [upd_ne (ne_of_none q nx), upd_ne (ne_of_none q nd)]; exact q
  exact ⟨s, sub_fresh nx s⟩
theorem run_new {f0 : Addr} {pins : List (Addr × Obj)} {σ : L2.St} {H : Hp} {s : Shared} {us : List Value} {vs : List V} {sp : Sp} {Q : VK} {E : XK} (M : Mk X.K C f0) (F : FnP X.prog X.w X.K X.mg X.base k f0 sp) (hG : GdOk X.A X.base) (hr : Room (k + 1) X.A) (tk : Takes X W) (hE : ∀ cls dd H', E cls dd H' → W cls dd σ H') (I : Inv X pins σ H s) (r : Vals vs us)
    (h : ∀ x dx, H x = none → H dx = none → dx ≠ x → sp (V.ref x :: vs) (upd (upd H dx (.own x)) x (.ins C dx [])) (fun v H2 => v = .non ∧ Q (.ref x) H2) E) : wpAny (model X.prog X.w) X.A (call (.ref C) us) (EP X pins σ Q) X.xe s := by
  have hq := h (s.heap.objs.size + 1) s.heap.objs.size (I.hok.fresh (Nat.le_succ _)) (I.hok.fresh (Nat.le_refl _)) (Nat.ne_of_lt (Nat.lt_succ_self _))
  have I2 := Inv.made (C := C) I
  have r2 : Vals (V.ref (s.heap.objs.size + 1) :: vs) (Value.ref (s.heap.objs.size + 1) :: us) := .cons rfl r
  refine wpAny_call (make_map (f := f0) I.kIn M.makes M.init (beq_iff_eq.mp M.fn) (codeAny_mono (F _ X.stack _ _ (Value.ref (s.heap.objs.size + 1) :: us) _ _ E hG (hr.make C us []) (I2.env0.make C us []) r2 hq) fun r s' hq' => ?_))
  cases r with
  | error e => exact tk e s' (XE.of_call I2 hE hq')
  | ok fl =>
    cases fl with
    | ret u =>
      obtain ⟨v, H', I3, rv, ev, q3⟩ := I2.after hq'
      subst ev
      exact ⟨rv, ⟨V.ref (s.heap.objs.size + 1), H', I3, rfl, q3⟩⟩
    | next => exact False.elim hq'
    | brk => exact False.elim hq'
    | cont => exact False.elim hq'
/-- C(*e) -/
def mMakeS (n : Str) (m : MM) (ma : TM) : TM := fun δ Q E => ma δ (fun d => ∃ ds, (d = .tup ds ∨ d = .list ds) ∧ m (.obj n []) ds (fun d r => r = .none ∧ Q d) (fun _ er => E er)) E
end
/-! ### isinstance of own classes -/
def ownTys : List String := ["NoneType", "bool", "int", "str", "list", "tuple", "dict"]
/-- what the written part says of an own class and the built-in ones -/
def kitAll (K : PySem.W.Frag) (C : Addr) : Bool := ownTys.all fun t => decide (PySem.W.kitOne K (.type t) (.ref C) = some false)
def isClsD (n : Str) : D → Bool
  | .obj m _ => decide (m = n)
  | _ => false
def fIsiC (others : List Str) (n : Str) (d : D) (Q : D → Prop) : Prop := (d.tyn.isSome = true ∨ ∃ m fs, d = .obj m fs ∧ m ∈ others) ∧ Q (.bool (isClsD n d))
def mIsiC (others : List Str) (n : Str) (ma : TM) : TM := fun δ Q E => ma δ (fun d => fIsiC others n d Q) E
/-- .. of a class whose instances' kind is asked -/
structure InsTy (K : PySem.W.Frag) (C : Addr) : Prop where
  cl : Cls K C
  fc : PySem.W.findIn K (.ref C) "__class__" = some (some (.builtin "object.__class__"))
  sg : PySem.W.specialIn K (.builtin "object.__class__") "__get__" = some (some (.builtin "getset_descriptor.__get__"))
  tk : PySem.W.takesIn K (.builtin "object.__class__") = some true
  mo : PySem.W.mroIn K C (.type "object") = some true
/-- own classes among one another -/
structure KitOwn (K : PySem.W.Frag) (others : List Str) : Prop where
  two : ∀ (m n : Str) (Cm Cn : Addr), m ∈ others → n ∈ others → PySem.W.nsIn K mainGlobals m = some (some (.ref Cm)) → PySem.W.nsIn K mainGlobals n = some (some (.ref Cn)) → PySem.W.kitOne K (.ref Cm) (.ref Cn) = some (decide (m = n))
  ins : ∀ (m : Str) (Cm : Addr), m ∈ others → PySem.W.nsIn K mainGlobals m = some (some (.ref Cm)) → InsTy K Cm
theorem tyn_mem {d : D} {t : String} (h : d.tyn = some t) : t ∈ ownTys := by
  cases d <;> cases h <;> decide
end DL
set_option Elab.async false
set_option linter.all false
set_option maxRecDepth 100000
set_option maxHeartbeats 4000000
/-! DL22: list(d.values()). -/
namespace DL
open PySem PySem.Spec PyProof.Rows L2
variable [TabsC]
section
variable {X : Cx} {W : WX} {e : Expr} {te : TE} {ba : Bool} {ma : TM} {p apos cpos pos : Pos}
def mListVals (ma : TM) : TM := fun δ Q E => ma δ (fun d => ∃ ds : List (Key × D), d = .dict ds ∧ Q (.list (ds.map (·.2)))) E
end
end DL
set_option Elab.async false
set_option linter.all false
set_option maxRecDepth 100000
set_option maxHeartbeats 4000000
/-! DL23: chains within a list of sizes, counted and the longest (plain). -/
namespace DL
variable [TabsC]
def chainB (s : List Int) : Bool := decide (s ≠ []) && (gapL s).isNone
/-! ### the table -/
/-! ### the longest -/
structure LongOk (p : List Int) (L : List (List Int)) : Prop where
  mem : ∀ t, t ∈ L → chainB t = true ∧ t.Sublist p
  top : ∀ s, s.Sublist p → chainB s = true → ∃ t, t ∈ L ∧ t.getLastD 0 = s.getLastD 0 ∧ s.length ≤ t.length
theorem LongOk.nil : LongOk [] [] := ⟨(fun t h => by cases h), fun s h hc => absurd (show chainB [] = true from List.sublist_nil.mp h ▸ hc) (by decide)⟩
end DL
set_option Elab.async false
set_option linter.all false
set_option maxRecDepth 100000
set_option maxHeartbeats 4000000
/-! DL24: errors of one's own: made, raised, caught by several clauses, their field read. -/
namespace DL
open PySem PySem.Spec PyProof.Rows L2
/-! ### an own class over a built-in one -/
/-- own classes, then the tail -/
def refsT (tl : List Value) : List Value → Bool
  | .ref _ :: r => refsT tl r
  | l => l == tl
theorem refsT_split {tl : List Value} : ∀ l : List Value, refsT tl l = true → ∃ cs : List Addr, l = cs.map Value.ref ++ tl := by
  intro l
  induction l with
  | nil => intro e; exact ⟨[], (beq_iff_eq.mp e)⟩
  | cons a r ih =>
    intro e
    cases a with
    | ref c =>
      obtain ⟨cs, z⟩ := ih e
      exact ⟨c :: cs, by rw [z]; rfl⟩
    | _ => exact ⟨[], beq_iff_eq.mp e⟩
theorem refsT_has {tl : List Value} {l : List Value} (e : refsT tl l = true) (n : String) : l.contains (.type n) = tl.contains (.type n) := by
  obtain ⟨cs, rfl⟩ := refsT_split l e
  induction cs with
  | nil => rfl
  | cons c cs ih => rw [List.map_cons, List.cons_append, List.contains_cons, ih (by simpa [refsT] using e)]; rfl
theorem refsT_pass {tl : List Value} {self : Value} (ht : PySem.refuseLoop self "__setattr__" tl = pure ()) : ∀ cs : List Addr, PySem.refuseLoop self "__setattr__" (cs.map Value.ref ++ tl) = pure ()
  | [] => ht
  | c :: cs => by
    rw [List.map_cons, List.cons_append, refuseLoop_ref]
    exact refsT_pass ht cs
end DL
namespace PySem
namespace HandSPX
open PySem.W PySem.Calls PyProof.Rows PySem.Builtin PySem.Builtin.ObjectAttr
section
variable {prog : Program} {w : World} {A : Around} {R : Result → Shared → Prop} {hp : Heap} {g : Array GenState} {d : Drawn} {t : Nat} {os : OsState}
/-- a first attribute of a new exception of any own class: its dict is made -/
theorem exc_first {K : W.Frag} {fld : Str} {tk : Tok} {val : Value} {tl : List Value} {x C : Addr} {fv : Array Value} {cd : ClassData} (KI : K.In hp) (atx : hp.get? x = some { cls := .ref C, data := .fields fv }) (hcd : W.clsIn K C = some cd) (hm : DL.refsT tl cd.mro = true) (hpass : ∀ self, refuseLoop self "__setattr__" tl = pure ()) (hobj : tl.contains (.type "object") = true)
    (hdict : cd.hasDict = true) (hno : W.findIn K (.ref C) fld = some none)
    (fin : ∀ h' tk' dx, (∀ b o, b ≠ x → hp.get? b = some o → h'.get? b = some o) → hp.objs.size ≤ dx → dx ≠ x → h'.get? x = some { cls := .ref C, dict := some dx, data := .fields fv } → h'.Ns1 dx (fun y => if y = fld then some val else none) → R (.ok (.ret .none)) ⟨h', g, d, tk', os⟩) :
    codeAny (model prog w) A (.call (.builtin "object.__setattr__") ⟨[.ref x, .str fld tk, val], []⟩) R ⟨hp, g, d, t, os⟩ := by
  have inst : W.InstAt hp x { cls := .ref C, data := .fields fv } C none := ⟨atx, rfl, rfl, trivial⟩
  have hob : cd.mro.contains (.type "object") = true := (DL.refsT_has hm "object").trans hobj
  have ne : cd.mro.isEmpty = false := by
    cases e : cd.mro with
    | nil => rw [e] at hob; cases hob
    | cons _ _ => rfl
  have pass : ∀ self, refuseLoop self "__setattr__" cd.mro = pure () := fun self => by
    obtain ⟨cs, e⟩ := DL.refsT_split _ hm
    rw [e]
    exact DL.refsT_pass (hpass self) cs
  have apart : x ≠ hp.objs.size := Nat.ne_of_lt (Heap.lt_size atx)
  have isObj : W.Looks (model prog w) hp (isInstance (.ref x) (.type "object")) true := inst.type.andThen (W.looks_mroIn KI (by unfold W.mroIn; rw [hcd, Option.bind_some, if_neg (by rw [ne]; decide), hob]))
  have FO := F.store_object
  refine codeAny_call_builtin FO.slot.plain FO.entry (@W.check_slot (model prog w) _ _ ⟨hp, g, d, t, os⟩ "object.__setattr__" "object" "__setattr__" (.ref x) [.str fld tk, val] [] _ FO.kind FO.split isObj (FO.args (.ref x) (.str fld tk) val) ?_)
  have lm : W.Looks (model prog w) hp (mroOf (.ref C)) cd.mro := (W.looks_clsIn KI hcd).andThen .now
  have ls : W.Looks (model prog w) hp (storeTaker? none) none := .now
  have lc : W.Looks (model prog w) hp (classData C) cd := W.looks_clsIn KI hcd
  rw [W.osa_eq, refuse_eq]
  refine wpAny_bind (wpAny_bind (inst.type.at (wpAny_bind (lm.at ?_))))
  rw [pass _]
  refine wpAny_pure (wpAny_bind (inst.type.at (wpAny_bind ((W.looks_findIn KI hno).at (wpAny_bind (ls.at ?_))))))
  show wpAny _ _ (storeInOwnDict (.ref x) (.ref C) (.str fld tk) fld val false) _ _ _
  obtain ⟨n1, n2, n3, n4, n5, hd, n6, n7, n8, n9, n10⟩ := cd
  dsimp only at hdict
  subst hdict
  unfold storeInOwnDict ownDictForStores
  repeat (first | with_reducible refine store_in_new ?_ ?_ | with_reducible refine wpAny_loadPart_at atx ?_ | with_reducible refine lc.at ?_ | wp_step)
  · exact ⟨_, #[], _, (Heap.get?_update_ne _ _ _ _ apart.symm).trans (Heap.get?_push_at rfl rfl), rfl, fun e he => absurd he (by simp), fun _ => rfl⟩
  · intro h2 tk2 ns2 sb
    have atx1 : (hp.push { cls := .type "dict", data := .dict #[] }).get? x = some { cls := .ref C, data := .fields fv } := Heap.get?_push_of_some _ atx
    refine fin h2 tk2 hp.objs.size (fun b o hb ho => ?_) (Nat.le_refl _) apart.symm ?_ ns2
    · exact (sb.2 b (Nat.ne_of_lt (Heap.lt_size ho))).trans ((Heap.get?_update_ne _ _ _ _ hb).trans (Heap.get?_push_of_some _ ho))
    · exact (sb.2 x apart).trans (Heap.get?_update_self _ atx1 rfl)
end
end HandSPX
end PySem
namespace DL
open PySem PySem.Spec PyProof.Rows L2
/-! ### def __init__(self, f): self.f = f -/
def xA (f : Str) (p1 p2 : Pos) : Arguments := { posonlyargs := [], args := [{ arg := "self", annotation := none, pos := p1 }, { arg := f, annotation := none, pos := p2 }], vararg := none, kwonlyargs := [], kw_defaults := [], kwarg := none, defaults := [] }
def xB (f : Str) (q1 q2 q3 q4 : Pos) : List Stmt := [.Assign [.Attribute (.Name "self" q1) f q2] (.Name f q3) q4]
def xS (f : Str) : Scope := { kind := .function, names := [(PySem.Str.ofString "self", .local), (f, .local)], isGenerator := false, isCoroutine := false, more := [] }
/-- what the written part says of an own exception class at C that keeps one field -/
structure OwnX (K : PySem.W.Frag) (C fI : Addr) (nm qn f : Str) (tl : List Value) (newId : String) : Prop where
  cls : ∃ n q N bs bm sn sub ab col dd k0 k1 k2 k3 k5, K.lookup C = some (excClassObj n q C N bs bm true sn sub ab col dd k0 k1 k2 k3 k5 newId) ∧ refsT tl bm = true
  sa : PySem.W.findIn K (.ref C) "__setattr__" = some (some (.builtin "object.__setattr__"))
  ga : PySem.W.findIn K (.ref C) "__getattribute__" = some (some (.builtin "BaseException.__getattribute__"))
  gg : PySem.W.findIn K (.ref C) "__getattr__" = some none
  no : PySem.W.findIn K (.ref C) f = some none
  iC : PySem.W.findIn K (.ref C) "__init__" = some (some (.ref fI))
  tC : PySem.W.typeIn K (.ref fI) = some (.type "function")
  kC : PySem.W.keepIn K (.ref C) = true
  ex : PySem.W.subIn K (.ref C) (.type "BaseException") = some true
  ty : PySem.W.typeIn K (.ref C) = some (.type "type")
  hd : PySem.W.hasDictIn K C = true
  fn : ∃ (oc : Value) (od : Option Addr) (doc pm : Value) (an : Option Addr) (cdv ct : Value) (osl : Array (Option Value)) (p1 p2 q1 q2 q3 q4 : Pos),
    K.lookup fI = some ⟨oc, od, .func (PySem.W.fnOf "__init__" qn (xA f p1 p2) (xB f q1 q2 q3 q4) (xS f) .none .none doc pm an cdv ct), osl⟩ ∧ PySem.W.codeIn K cdv qn = true
structure MadeX (h h' : Heap) (e C d : Addr) (f : Str) (v : Value) : Prop where
  keep : ∀ b o, h.get? b = some o → h'.get? b = some o
  new : h.objs.size ≤ e
  obj : ∃ oe vs, h'.get? e = some oe ∧ oe.cls = .ref C ∧ oe.dict = some d ∧ oe.data = .fields vs ∧ vs[1]? = some .none
  dbig : h.objs.size ≤ d
  dne : d ≠ e
  ns : h'.Ns1 d (fun y => if y = f then some v else none)
/-- facts of the field's name -/
structure FldOk (f : Str) : Prop where
  bind : ∀ (qn : Str) (doc pm cdv ct x v : Value) (an : Option Addr) (p1 p2 q1 q2 q3 q4 : Pos), bindArgs (PySem.W.fnOf "__init__" qn (xA f p1 p2) (xB f q1 q2 q3 q4) (xS f) .none .none doc pm an cdv ct) ⟨[x, v], []⟩ = pure [(("self" : Str), x), (f, v)]
  all : ((xS f).names.lookup ("self" : Str) == some NameKind.local || (xS f).names.lookup ("self" : Str) == some NameKind.cell) = true ∧ ((xS f).names.lookup f == some NameKind.local || (xS f).names.lookup f == some NameKind.cell) = true
  kd : ∀ (name : Str) (L a : Addr) (cd : Value), (envOfC name (xS f) L a cd).kindOf f = some .local
  ks : ∀ (name : Str) (L a : Addr) (cd : Value), (envOfC name (xS f) L a cd).kindOf "self" = some .local
  dbg : (f == ("__debug__" : Str)) = false
  mf : ∀ (name : Str) (L a : Addr) (cd x v : Value), bindL (envOfC name (xS f) L a cd).kindOf [(("self" : Str), x), (f, v)] (fun _ => none) f = some v
  ms : ∀ (name : Str) (L a : Addr) (cd x v : Value), bindL (envOfC name (xS f) L a cd).kindOf [(("self" : Str), x), (f, v)] (fun _ => none) "self" = some x
/-- facts of the built-in base -/
structure BaseX (B newId initId : String) (tl : List Value) : Prop where
  F : ExcBaseFacts B newId initId tl
  pass : ∀ self, PySem.refuseLoop self "__setattr__" tl = pure ()
  obj : tl.contains (.type "object") = true
section
variable {prog : Program} {w : World} {A : Around} {E : Value → Shared → Prop} {R : Result → Shared → Prop} {s : Shared} {K : PySem.W.Frag} {C fI : Addr} {nm qn f : Str} {tl : List Value} {B newId initId : String}
theorem ld_at {M : Model} {s : Shared} {name : Str} {scope : Scope} {L a : Addr} {cd : Value} {m : Str → Option Value} {x : Str} {pos : Pos} {v : Value} {Q : Value → Shared → Prop} {A : Around} {E : Value → Shared → Prop} (hn : s.heap.Ns L m) (hv : m x = some v) (hk : scope.kind = .function) (hl : (envOfC name scope L a cd).kindOf x = some .local) (hd : (x == ("__debug__" : Str)) = false) (h : Q v s) :
    wpAny M A (eval (.Name x pos) (envOfC name scope L a cd)) Q E s := wpAny_Name (wpAny_loadName_local hk hl hn hv h) hd
theorem init_x (BX : BaseX B newId initId tl) (T : OwnX K C fI nm qn f tl newId) (FO : FldOk f) {x t0 : Addr} {v : Value} (KI : K.In s.heap) (hlim : s.heap.NoLimit) (hx : s.heap.get? x = some (PySem.HandSPX.excO C t0)) (hroom : A.depth < recursionLimit)
    (hq : ∀ h' tk dx, (∀ b o, b ≠ x → s.heap.get? b = some o → h'.get? b = some o) → h'.get? x = some { cls := .ref C, dict := some dx, data := .fields #[.ref t0, .none, .none, .none, .bool false, .none] } → s.heap.objs.size ≤ dx → dx ≠ x → h'.Ns1 dx (fun y => if y = f then some v else none) → R (.ok (.ret .none)) { s with heap := h', toks := tk }) :
    codeAny (model prog w) A (.call (.ref fI) ⟨[.ref x, v], []⟩) R s := by
  obtain ⟨oc, od, doc, pm, an, cdv, ct, osl, p1, p2, q1, q2, q3, q4, ho, hcd⟩ := T.fn
  obtain ⟨n, q, N, bs, bm, sn, sub, ab, col, dd, k0, k1, k2, k3, k5, hC, hbm⟩ := T.cls
  have hcl : PySem.W.clsIn K C = some { name := n, bases := bs, mro := .ref C :: bm, ns := N, qualname := q, hasDict := true, slotNames := sn, subclasses := sub, abstract := ab, collection := col, hasDel := false } := by unfold PySem.W.clsIn; rw [hC] <;> rfl
  refine Att.call_fn (binds := [("self", .ref x), (f, v)]) KI hlim ho hcd hroom (BindsTo.of_eq (FO.bind _ _ _ _ _ _ _ _ _ _ _ _ _ _)) (by simp only [List.all_cons, List.all_nil]; rw [FO.all.1, FO.all.2]; rfl) (fun s1 IC => ?_) rfl rfl rfl
  obtain ⟨h1, tk1, rfl⟩ := IC.toInCall.same
  have kp : ∀ b o, s.heap.get? b = some o → h1.get? b = some o := IC.toInCall.keep
  have hn := IC.toInCall.ns
  have KI1 : K.In h1 := KI.keeps kp
  have hx1 := kp _ _ hx
  show wpAny _ _ (execs _ _) _ _ _
  refine wpAny_execs_cons (plainObj_wpAny_Assign_Attribute ?_)
  refine ld_at (v := v) hn ?_ rfl (FO.kd _ _ _ _) FO.dbg (ld_at (v := .ref x) hn ?_ rfl (FO.ks _ _ _ _) (by decide) ?_)
  · exact FO.mf _ _ _ _ _ _
  · exact FO.ms _ _ _ _ _ _
  refine PySem.W.set_plain KI1 (ox := PySem.HandSPX.excO C t0) (od := none) ⟨hx1, rfl, rfl, trivial⟩ T.sa ?_
  refine PySem.HandSPX.exc_first (tl := tl) KI1 hx1 hcl (show refsT tl (.ref C :: bm) = true from hbm) BX.pass BX.obj rfl T.no (fun h3 tk3 dx k3 dn dne hx3 hn3 => ?_)
  show wpAny _ _ (execs _ _) _ _ _
  have z : s.heap.objs.size < h1.objs.size := hn.lt
  exact wpAny_execs_nil (hq h3 tk3 dx (fun b o hb e => k3 b o hb (kp b o e)) hx3 (Nat.le_of_lt (Nat.lt_of_lt_of_le z dn)) dne hn3)
theorem made_x (BX : BaseX B newId initId tl) (T : OwnX K C fI nm qn f tl newId) (FO : FldOk f) {v : Value} (KI : K.In s.heap) (hlim : s.heap.NoLimit) (hroom : A.depth + 1 < recursionLimit)
    (hq : ∀ h' tk e d, MadeX s.heap h' e C d f v → R (.ok (.ret (.ref e))) { s with heap := h', toks := tk }) : codeAny (model prog w) A (.call (.ref C) ⟨[v], []⟩) R s := by
  obtain ⟨n, q, N, bs, bm, sn, sub, ab, col, dd, k0, k1, k2, k3, k5, hC, hbm⟩ := T.cls
  obtain ⟨hp, g, dr, tk, os⟩ := s
  have kp : ∀ b o, hp.get? b = some o → ((hp.push (PySem.W.kdv_tup [v])).push (PySem.HandSPX.excO C hp.objs.size)).get? b = some o := fun b o e => Heap.get?_push_of_some _ (Heap.get?_push_of_some _ e)
  have at_ : ((hp.push (PySem.W.kdv_tup [v])).push (PySem.HandSPX.excO C hp.objs.size)).get? (hp.objs.size + 1) = some (PySem.HandSPX.excO C hp.objs.size) := by
    have := Heap.get?_push_size (hp.push (PySem.W.kdv_tup [v])) (o := PySem.HandSPX.excO C hp.objs.size) rfl
    rwa [Heap.size_push] at this
  refine PySem.HandSPX.call_own BX.F (fun Y => refsT_has hbm Y) (KI _ _ hC) (PySem.W.looks_findIn KI T.iC) (fun self => PySem.W.bind_fn KI self T.tC) (by show 1 ≤ sizeLine; rw [sizeLine_eq]; decide) ?_
  refine init_x (s := ⟨(hp.push (PySem.W.kdv_tup [v])).push (PySem.HandSPX.excO C hp.objs.size), g, dr, tk, os⟩) BX T FO (KI.keeps kp) (hlim.keeps kp) at_ ?_ fun h2 tk2 dx k2 hx dn dne hns => ?_
  · show A.depth + 1 < recursionLimit
    exact hroom
  · have dn2 : hp.objs.size + 1 + 1 ≤ dx := by
      have z : ((hp.push (PySem.W.kdv_tup [v])).push (PySem.HandSPX.excO C hp.objs.size)).objs.size ≤ dx := dn
      rwa [Heap.size_push, Heap.size_push] at z
    exact ⟨rfl, hq h2 tk2 (hp.objs.size + 1) dx ⟨fun b o e => k2 b o (Nat.ne_of_lt (Nat.lt_succ_of_lt (Heap.lt_size e))) (kp b o e), Nat.le_succ _, ⟨_, _, hx, rfl, rfl, rfl, rfl⟩, (show hp.objs.size ≤ dx from by omega), dne, hns⟩⟩
end
/-! ### X(e), raised -/
section
variable {X : Cx} {C fI : Addr} {nm qn f : Str} {tl : List Value} {B newId initId : String} {W : WX} {a : Expr} {ta : TA} {x : Str} {p pos pos2 : Pos} {k : Nat}
def tMkX (C : Addr) (f : Str) (ta : TA) : L2.St → Hp → XK → Prop := fun σ H Q => ta σ H fun vs H1 => ∃ v, vs = [v] ∧ ∀ d, H1 d = none → Q (.ref C) (some d) (upd H1 d (.xd [(f, v)]))
theorem pmk_x (BX : BaseX B newId initId tl) (T : OwnX X.K C fI nm qn f tl newId) (FO : FldOk f) (gC : X.mg x = some (.ref C)) (hr : Room (k + 1) X.A) (ha : PA X [a] ta) (hg : Gl X x) (hdb : (x == ("__debug__" : Str)) = false := by decide)
    (he : starEach (a :: []) X.env = (false, eval a X.env) :: starEach [] X.env := by rfl) (hpl : (backTo pos (starEach [] X.env)).any (·.1) = false := by rfl) : PMk X (.Call (.Name x p) [a] [] pos) (tMkX C f ta) := by
  intro pins s σ H Q I h
  refine wpAny_Call_Name_kw (ld_glob I hg gC ?_ hdb)
  refine PySem.W.callWith_K (h₀ := X.base) I.ok.mod.kin T.kC (thn (ha.run pos pins s σ H _ I h) fun us s1 hh => ?_) he hpl
  obtain ⟨vs, H1, I1, r1, v, ev, q1⟩ := hh
  subst ev
  refine ⟨I1.kIn, ?_⟩
  obtain ⟨u, rfl, rv⟩ := vals1 r1
  show wpAny _ _ (call (.ref C) [u]) _ _ _
  have lim := I1.nolimit
  obtain ⟨hp, g, dr, tk, os⟩ := s1
  refine wpAny_call (made_x BX T FO I1.kIn lim (by have := hr.dp; omega) fun h2 tk2 e d M => ?_)
  show MkP X pins σ Q (.ref e) ⟨h2, g, dr, tk2, os⟩
  obtain ⟨oe, fv, hoe, hc, hd, hdat, h1⟩ := M.obj
  obtain ⟨G, g1, g2⟩ := restrict h2 fun b => decide (b ≠ e)
  have gk : ∀ b, b ≠ e → G.get? b = h2.get? b := fun b hb => g1 b (decide_eq_true hb)
  have ge : G.get? e = none := g2 e (by simp)
  have old : ∀ b o, hp.get? b = some o → G.get? b = some o := fun b o q => (gk b (Nat.ne_of_lt (Nat.lt_of_lt_of_le (Heap.lt_size q) M.new))).trans (M.keep b o q)
  have rel : ∀ y : Str, RelO (List.lookup y [(f, v)]) (if y = f then some u else none) := fun y => by
    rw [List.lookup_cons]
    by_cases z : y = f
    · rw [if_pos z, show (y == f) = true by simpa using z]; exact rv
    · rw [if_neg z, show (y == f) = false by simpa using z]; trivial
  have J : Inv X pins σ (upd H1 d (.xd [(f, v)])) ⟨G, g, dr, tk2, os⟩ := I1.laid (t' := tk2) old M.dbig (show ObjOk X.prog X.w _ G d (.xd [(f, v)]) from ⟨_, M.ns.at (fun o q => (gk d M.dne).trans q), rel⟩)
  refine ⟨e, oe, fv, ⟨G, g, dr, tk2, os⟩, _, .ref C, some d, rfl, J, fun b o q => ?_, ge, hoe, ⟨hc, hd⟩, hdat, h1, ?_, rfl, I1.bare, raises_own T.ex T.ty, q1 d (I1.hok.fresh M.dbig)⟩
  · by_cases hb : b = e
    · have z : G.get? b = some o := q
      rw [hb, ge] at z; cases z
    · exact (gk b hb).symm.trans q
  · rw [upd_ne (Ne.symm M.dne)]
    exact I1.hok.fresh M.new
end
variable [TabsC]
section
variable {X : Cx} {C fI : Addr} {nm qn f : Str} {tl : List Value} {B newId initId : String} {W : WX} {a e : Expr} {ba : Bool} {ma : TM} {x : Str} {p p2 pos pos2 : Pos} {k : Nat}
/-- raise X(e) -/
def sRaise (nm f : Str) (ma : TM) : SM := fun δ k => ma δ (fun d => k.er δ ⟨nm, some (f, d)⟩) (k.er δ)
theorem ds_raise (BX : BaseX B newId initId tl) (T : OwnX X.K C fI nm qn f tl newId) (FO : FldOk f) (hn : PySem.W.nsIn X.K mainGlobals nm = some (some (.ref C))) (gC : X.mg nm = some (.ref C)) (hc : X.calm = true) (hr : Room (k + 1) X.A) (tk : Takes X W) (ha : DE X W a false ma) (hg : Gl X nm) (hdb : (nm == ("__debug__" : Str)) = false := by decide)
    (he : starEach (a :: []) X.env = (false, eval a X.env) :: starEach [] X.env := by rfl) (hpl : (backTo pos (starEach [] X.env)).any (·.1) = false := by rfl) : DS X W (.Raise (some (.Call (.Name nm p) [a] [] pos)) none pos2) (sRaise nm f ma) :=
  PS.imp (ps_raise hc tk (pmk_x BX T FO gC hr (pa_cons ha pa_nil he) hg hdb he hpl)) fun D σ H ⟨F, own, δ, κ, E, h, L⟩ => ⟨F, own, δ, _, _, L.at E, h, fun d v H1 m1 s1 r1 => ⟨v, rfl, fun dx hdx => by
    have out : dx ∉ F.ls0 ++ own := nofr (E.grow s1).trk hdx
    have g := sub_same (ls := F.ls0 ++ own) (same_upd (o := .xd [(f, v)]) hdx).ob
    exact L.er _ _ _ σ _ own δ (E.grow (s1.trans (same_upd hdx))) m1 ⟨⟨C, hn, rfl⟩, fun f' d' q => by
      cases q
      exact ⟨dx, v, rfl, by rw [sub_out out]; exact upd_same, r1.clean.mono g⟩⟩⟩⟩
/-- raise X('m') -/
def sRaise0 (nm : Str) : SM := fun δ k => k.er δ ⟨nm, none⟩
theorem ds_raise0 {m : Str} {j : Nat} {bmB : List Value} (F : ExcBaseFacts B newId initId bmB) (q : PySem.W.excIn X.K C bmB newId = true) (hn : PySem.W.nsIn X.K mainGlobals nm = some (some (.ref C))) (gC : X.mg nm = some (.ref C)) (kC : PySem.W.keepIn X.K (.ref C) = true) (h1 : PySem.W.subIn X.K (.ref C) (.type "BaseException") = some true) (h2 : PySem.W.typeIn X.K (.ref C) = some (.type "type")) (hc : X.calm = true) (tk : Takes X W) (hg : Gl X nm) (hdb : (nm == ("__debug__" : Str)) = false := by decide) :
    DS X W (.Raise (some (.Call (.Name nm p) [.Constant (.str m) j p2] [] pos)) none pos2) (sRaise0 nm) :=
  PS.imp (ps_raise hc tk (pmk_own F q gC kC (raises_own h1 h2) hg hdb)) fun D σ H ⟨Fm, own, δ, κ, E, h, L⟩ => L.er _ _ _ σ H own δ E h ⟨⟨C, hn, rfl⟩, fun f d q => by cases q⟩
end
end DL
set_option Elab.async false
set_option linter.all false
set_option maxRecDepth 100000
set_option maxHeartbeats 4000000
/-! DL25: try with several clauses; what a caught error keeps. -/
namespace DL
open PySem PySem.Spec PyProof.Rows L2
theorem bx_IndexError : BaseX "IndexError" "IndexError.__new__" "IndexError.__init__" [.type "IndexError", .type "LookupError", .type "Exception", .type "BaseException", .type "object"] := ⟨PySem.F.excBase_IndexError, fun s => by kernel_rfl, by decide +kernel⟩
theorem bx_LookupError : BaseX "LookupError" "LookupError.__new__" "LookupError.__init__" [.type "LookupError", .type "Exception", .type "BaseException", .type "object"] := ⟨PySem.F.excBase_LookupError, fun s => by kernel_rfl, by decide +kernel⟩
/-! ### over data -/
variable [TabsC]
/-- which class takes which error -/
structure HIsa (K : PySem.W.Frag) (names : List Str) (isa : Str → Str → Bool) : Prop where
  one : ∀ (n c : Str) (Cn Cc : Addr), n ∈ names → c ∈ names → PySem.W.nsIn K mainGlobals n = some (some (.ref Cn)) → PySem.W.nsIn K mainGlobals c = some (some (.ref Cc)) → PySem.W.exmOne K (.ref Cn) (.ref Cc) = some (isa n c)
def HM := Er → SM
def hPlain (m : SM) : HM := fun _ δ k => m δ { k with er := fun _ _ => False }
def hAs (i : Nat) (m : Addr → Addr → SM) : HM := fun er δ k => ∃ f d, er.arg = some (f, d) ∧ ∀ a dd, m a dd (δ.set i (.v (.exc a dd er.cls f d))) ⟨fun δ' => k.nx (δ'.set i .u), k.rt, fun δ' => k.bk (δ'.set i .u), fun δ' => k.ct (δ'.set i .u), fun _ _ => False⟩
def hsM (isa : Str → Str → Bool) : List (Str × HM) → Er → SM
  | [], er => fun δ k => k.er δ er
  | (c, h) :: r, er => fun δ k => if isa er.cls c = true then h er δ k else hsM isa r er δ k
def sTry (names : List Str) (isa : Str → Str → Bool) (mb : SM) (hs : List (Str × HM)) : SM := fun δ k => mb δ { k with er := fun δ' er => er.cls ∈ names ∧ hsM isa hs er δ' k }
section
variable {X : Cx} {W : WX} {names : List Str} {isa : Str → Str → Bool} {hds : List ExceptHandler} {hs : List (Str × HM)} {x n : Str} {C : Addr} {b0 : Stmt} {suite sts : List Stmt} {np pos' pos : Pos} {i : Nat} {mb m : SM}
/-- e.f, e the error that the clause has caught -/
def mEF (i : Nat) (a dd : Addr) (f : Str) : TM := fun δ Q _ => ∃ nm d, δ[i]? = some (.v (.exc a dd nm f d)) ∧ Q d
end
end DL
set_option Elab.async false
set_option linter.all false
set_option maxRecDepth 100000
set_option maxHeartbeats 4000000
/-! DL26: x += e; tables of classes; fields' names. -/
namespace DL
open PySem PySem.Spec PyProof.Rows L2
theorem fo_value : FldOk "value" := ⟨fun _ _ _ _ _ _ _ _ _ _ _ _ _ _ => rfl, by decide +kernel, fun _ _ _ _ => rfl, fun _ _ _ _ => rfl, by decide, fun _ _ _ _ _ _ => rfl, fun _ _ _ _ _ _ => rfl⟩
theorem fo_size : FldOk "size" := ⟨fun _ _ _ _ _ _ _ _ _ _ _ _ _ _ => rfl, by decide +kernel, fun _ _ _ _ => rfl, fun _ _ _ _ => rfl, by decide, fun _ _ _ _ _ _ => rfl, fun _ _ _ _ _ _ => rfl⟩
variable [TabsC]
section
variable {X : Cx} {W : WX} {e : Expr} {ba : Bool} {ma : TM} {pos pos' : Pos} {x : Str} {op : Operator}
/-! ### x += e, of ints -/
def fI2 (g : Int → Int → Int) (x y : D) (Q : D → Prop) : Prop := match x, y with
  | .int i, .int j => Q (.int (g i j))
  | _, _ => False
theorem e_fI2 {g : Int → Int → Int} {i j : Int} {Q : D → Prop} : fI2 g (.int i) (.int j) Q = Q (.int (g i j)) := rfl
abbrev fAugAdd := fI2 fun i j => i + j
abbrev fAugSub := fI2 fun i j => i - j
def sAug (i : Nat) (f : D → D → (D → Prop) → Prop) (ma : TM) : SM := fun δ k => ∃ x, δ[i]? = some (.v x) ∧ ma δ (fun y => f x y fun d => k.nx (δ.set i (.v d))) (k.er δ)
theorem ds_aug (i : Nat) {g : Int → Int → Int} (hN : X.N.Nodup) (ho : PIp X op (ipI g)) (he : DE X W e ba ma) (hi : X.N[i]? = some x := by rfl) (hx : Loc X.env.scope x := by first | exact .inl rfl | exact .inr rfl) (hf : X.fn x = true ∨ X.env.scope.names.lookup x = some .local := by first | exact .inl rfl | exact .inr rfl) :
    DS X W (.AugAssign (.Name x pos') op e pos) (sAug i (fI2 g) ma) :=
  PS.imp (ps_aug hN hi hx he ho hf) fun D σ H ⟨F, own, δ, κ, E, ⟨dx, hd, h⟩, L⟩ => by
    obtain ⟨s, hs, v, rfl, rv⟩ := E.slot i _ hd
    refine ⟨v, hs, F, own, δ, _, _, L.at E, h, fun dy w H1 m1 s1 r1 => ?_⟩
    unfold fI2 at m1
    split at m1
    · rename_i a b
      have e1 : v = .int a := by cases rv; rfl
      subst e1
      rw [r1.isInt]
      exact ⟨a, b, rfl, rfl, L.nx _ H1 own _ ((E.grow s1).set i (.int _)) m1⟩
    · exact m1.elim
end
/-! ### tables of classes -/
theorem HIsa.of {K : PySem.W.Frag} {names : List Str} {isa : Str → Str → Bool} (tbl : List (Str × Addr)) (h1 : names = tbl.map (·.1)) (hns : ∀ p ∈ tbl, PySem.W.nsIn K mainGlobals p.1 = some (some (.ref p.2)))
    (h2 : (tbl.all fun p => tbl.all fun q => decide (PySem.W.exmOne K (.ref p.2) (.ref q.2) = some (isa p.1 q.1))) = true) : HIsa K names isa := by
  refine ⟨fun n c Cn Cc hn hc en ec => ?_⟩
  rw [h1] at hn hc
  obtain ⟨p, hp, rfl⟩ := List.mem_map.mp hn
  obtain ⟨q, hq, rfl⟩ := List.mem_map.mp hc
  have ep := hns p hp
  have eq := hns q hq
  rw [ep] at en
  rw [eq] at ec
  cases en
  cases ec
  exact of_decide_eq_true (List.all_eq_true.mp (List.all_eq_true.mp h2 p hp) q hq)
def insTyB (K : PySem.W.Frag) (C : Addr) : Bool := PySem.W.plainGet K C Str.empty && (PySem.W.hasDictIn K C && (PySem.W.plainOver K C && (decide (PySem.W.findIn K (.ref C) "__setattr__" = some (some (.builtin "object.__setattr__"))) && (decide (PySem.W.findIn K (.ref C) "__class__" = some (some (.builtin "object.__class__"))) &&
  (decide (PySem.W.specialIn K (.builtin "object.__class__") "__get__" = some (some (.builtin "getset_descriptor.__get__"))) && (decide (PySem.W.takesIn K (.builtin "object.__class__") = some true) && decide (PySem.W.mroIn K C (.type "object") = some true)))))))
theorem insTy_of {K : PySem.W.Frag} {C : Addr} (h : insTyB K C = true) : InsTy K C := by
  unfold insTyB at h
  simp only [Bool.and_eq_true, decide_eq_true_eq] at h
  obtain ⟨a, b, c, d, e, f, g, i⟩ := h
  exact ⟨⟨a, b, c, d⟩, e, f, g, i⟩
theorem KitOwn.of {K : PySem.W.Frag} {others : List Str} (tbl : List (Str × Addr)) (h1 : others = tbl.map (·.1)) (nd : others.Nodup) (hns : ∀ p ∈ tbl, PySem.W.nsIn K mainGlobals p.1 = some (some (.ref p.2)))
    (h2 : (tbl.all fun p => tbl.all fun q => decide (PySem.W.kitOne K (.ref p.2) (.ref q.2) = some (decide (p.1 = q.1)))) = true) (h3 : (tbl.all fun p => insTyB K p.2) = true) : KitOwn K others := by
  refine ⟨fun m n Cm Cn hm hn em en => ?_, fun m Cm hm em => ?_⟩
  · rw [h1] at hm hn
    obtain ⟨p, hp, rfl⟩ := List.mem_map.mp hm
    obtain ⟨q, hq, rfl⟩ := List.mem_map.mp hn
    have ep := hns p hp
    have eq := hns q hq
    rw [ep] at em
    rw [eq] at en
    cases em
    cases en
    exact of_decide_eq_true (List.all_eq_true.mp (List.all_eq_true.mp h2 p hp) q hq)
  · rw [h1] at hm
    obtain ⟨p, hp, rfl⟩ := List.mem_map.mp hm
    have ep := hns p hp
    rw [ep] at em
    cases em
    exact insTy_of (List.all_eq_true.mp h3 p hp)
end DL
set_option Elab.async false
set_option linter.all false
set_option maxRecDepth 100000
set_option maxHeartbeats 4000000
/-! DL27: the sorted set of ints as a plain list; chains as pairwise divisions. -/
namespace DL
open PySem PySem.Spec PyProof.Rows L2
variable [TabsC]
def insL (x : Int) : List Int → List Int
  | [] => [x]
  | y :: r => if x < y then x :: y :: r else if x = y then y :: r else y :: insL x r
def setL (xs : List Int) : List Int := xs.foldr insL []
theorem insL_mem {x k : Int} : ∀ {r : List Int}, k ∈ insL x r ↔ k = x ∨ k ∈ r
  | [] => by simp [insL]
  | y :: r => by
    have ih := @insL_mem x k r
    unfold insL
    split
    · simp
    · split
      · rename_i h; subst h; simp
      · simp only [List.mem_cons, ih]
        constructor
        · rintro (h | h | h)
          · exact .inr (.inl h)
          · exact .inl h
          · exact .inr (.inr h)
        · rintro (h | h | h)
          · exact .inr (.inl h)
          · exact .inl h
          · exact .inr (.inr h)
theorem insL_pair {x : Int} : ∀ {r : List Int}, r.Pairwise (· < ·) → (insL x r).Pairwise (· < ·)
  | [], _ => by simp [insL]
  | y :: r, h => by
    have h' := List.pairwise_cons.mp h
    unfold insL
    split
    · rename_i hx
      refine List.pairwise_cons.mpr ⟨fun k hk => ?_, h⟩
      rcases List.mem_cons.mp hk with rfl | hk
      · exact hx
      · exact Int.lt_trans hx (h'.1 k hk)
    · split
      · exact h
      · refine List.pairwise_cons.mpr ⟨fun k hk => ?_, insL_pair h'.2⟩
        rcases insL_mem.mp hk with rfl | hk
        · omega
        · exact h'.1 k hk
theorem setL_pair : ∀ {xs : List Int}, (setL xs).Pairwise (· < ·)
  | [] => List.Pairwise.nil
  | x :: r => insL_pair (setL_pair (xs := r))
theorem setL_mem {k : Int} : ∀ {xs : List Int}, k ∈ setL xs ↔ k ∈ xs
  | [] => Iff.rfl
  | x :: r => by
    show k ∈ insL x (setL r) ↔ _
    rw [insL_mem, setL_mem (xs := r), List.mem_cons]
theorem asc_ext : ∀ {xs ys : List Int}, xs.Pairwise (· < ·) → ys.Pairwise (· < ·) → (∀ k, k ∈ xs ↔ k ∈ ys) → xs = ys
  | [], [], _, _, _ => rfl
  | [], y :: r, _, _, h => by have := (h y).mpr List.mem_cons_self; cases this
  | x :: r, [], _, _, h => by have := (h x).mp List.mem_cons_self; cases this
  | x :: r, y :: t, hx, hy, h => by
    have hx' := List.pairwise_cons.mp hx
    have hy' := List.pairwise_cons.mp hy
    have e : x = y := by
      rcases List.mem_cons.mp ((h x).mp List.mem_cons_self) with e | m
      · exact e
      · rcases List.mem_cons.mp ((h y).mpr List.mem_cons_self) with e | m'
        · exact e.symm
        · have := hy'.1 x m; have := hx'.1 y m'; omega
    subst e
    refine congrArg (x :: ·) (asc_ext hx'.2 hy'.2 fun k => ⟨fun m => ?_, fun m => ?_⟩)
    · rcases List.mem_cons.mp ((h k).mp (List.mem_cons_of_mem _ m)) with e | m'
      · have := hx'.1 k m; omega
      · exact m'
    · rcases List.mem_cons.mp ((h k).mpr (List.mem_cons_of_mem _ m)) with e | m'
      · have := hy'.1 k m; omega
      · exact m'
theorem setL_of {ms xs : List Int} (h : ms.Pairwise (· < ·)) (hm : ∀ k, k ∈ ms ↔ k ∈ xs) : ms = setL xs := asc_ext h setL_pair fun k => (hm k).trans setL_mem.symm
theorem setL_perm {ms xs : List Int} (hp : ms.Perm xs) (hn : xs.Nodup) (hs : ms.Pairwise (· ≤ ·)) : ms = setL xs := by
  refine setL_of ?_ fun k => hp.mem_iff
  have hn' : ms.Pairwise (· ≠ ·) := (hp.nodup_iff).mpr hn
  refine (hs.and hn').imp fun h => ?_
  obtain ⟨a, b⟩ := h
  omega
theorem setL_len {xs : List Int} : (setL xs).length ≤ xs.length := by
  induction xs with
  | nil => exact Nat.le_refl _
  | cons x r ih =>
    have : ∀ (t : List Int), (insL x t).length ≤ t.length + 1 := fun t => by
      induction t with
      | nil => exact Nat.le_refl _
      | cons y t ih2 =>
        unfold insL
        split
        · simp
        · split
          · simp
          · simp only [List.length_cons]; omega
    show (insL x (setL r)).length ≤ r.length + 1
    exact Nat.le_trans (this _) (by omega)
theorem pair_asc : ∀ {ns : List Int}, ascL ns = true → ns.Pairwise (· < ·)
  | [], _ => List.Pairwise.nil
  | [x], _ => by simp
  | x :: y :: r, h => by
    have h1 : (decide (x < y) && ascL (y :: r)) = true := h
    rw [Bool.and_eq_true, decide_eq_true_eq] at h1
    have ih := pair_asc h1.2
    refine List.pairwise_cons.mpr ⟨fun k hk => ?_, ih⟩
    rcases List.mem_cons.mp hk with rfl | hk
    · exact h1.1
    · exact Int.lt_trans h1.1 ((List.pairwise_cons.mp ih).1 k hk)
theorem gapL_cons {x y : Int} {r : List Int} : gapL (x :: y :: r) = if y % x = 0 then gapL (y :: r) else some (x, y) := by
  show (((x, y) :: nb (y :: r)).find? fun p => decide (p.2 % p.1 ≠ 0)) = _
  rw [List.find?_cons]
  by_cases h : y % x = 0
  · rw [if_pos h, show decide ((x, y).2 % (x, y).1 ≠ 0) = false from decide_eq_false (fun z => z h)]
    rfl
  · rw [if_neg h, show decide ((x, y).2 % (x, y).1 ≠ 0) = true from decide_eq_true h]
theorem pair_gap : ∀ {ns : List Int}, gapL ns = none → ns.Pairwise (· ∣ ·)
  | [], _ => List.Pairwise.nil
  | [x], _ => by simp
  | x :: y :: r, h => by
    rw [gapL_cons] at h
    split at h
    · rename_i hd
      have ih := pair_gap h
      have hd := Int.dvd_of_emod_eq_zero hd
      refine List.pairwise_cons.mpr ⟨fun k hk => ?_, ih⟩
      rcases List.mem_cons.mp hk with rfl | hk
      · exact hd
      · exact Int.dvd_trans hd ((List.pairwise_cons.mp ih).1 k hk)
    · cases h
theorem asc_sub : ∀ {xs ys : List Int}, xs.Pairwise (· < ·) → ys.Pairwise (· < ·) → (∀ k, k ∈ xs → k ∈ ys) → xs.Sublist ys
  | [], ys, _, _, _ => List.nil_sublist _
  | x :: r, [], _, _, h => by have := h x List.mem_cons_self; cases this
  | x :: r, y :: t, hx, hy, h => by
    have hx' := List.pairwise_cons.mp hx
    have hy' := List.pairwise_cons.mp hy
    by_cases e : x = y
    · subst e
      refine (asc_sub hx'.2 hy'.2 fun k m => ?_).cons₂ x
      rcases List.mem_cons.mp (h k (List.mem_cons_of_mem _ m)) with e | m'
      · have := hx'.1 k m; omega
      · exact m'
    · have hxt : x ∈ t := by
        rcases List.mem_cons.mp (h x List.mem_cons_self) with e' | m
        · exact absurd e' e
        · exact m
      refine (asc_sub hx hy'.2 fun k m => ?_).cons y
      rcases List.mem_cons.mp (h k m) with e' | m'
      · rcases List.mem_cons.mp m with e2 | m2
        · exact absurd (e2.symm.trans e') e
        · have := hx'.1 k m2; have := hy'.1 x hxt; omega
      · exact m'
theorem fineP (p : Int × Int) : fineN 1 (pairD p) := fineN_tup fun d hd => by
  simp only [List.mem_cons, List.not_mem_nil, or_false] at hd
  rcases hd with rfl | rfl <;> exact fineN_int
end DL
set_option Elab.async false
set_option linter.all false
set_option maxRecDepth 100000
set_option maxHeartbeats 4000000
/-! DL28: three names set side by side. -/
namespace DL
open PySem PySem.Spec PyProof.Rows L2
variable [TabsC]
section
variable {X : Cx} {W : WX} {a b c e : Expr} {la : LM} {ba : Bool} {pos : Pos}
def sPar3 (i j l : Nat) (la : LM) : SM := fun δ k => la δ (fun ds => ∃ d e f, ds = [d, e, f] ∧ k.nx (((δ.set i (.v d)).set j (.v e)).set l (.v f))) (k.er δ)
theorem ds_par3 (i j l : Nat) {x y z : Str} {px py pz pt : Pos} {kt k2 : Nat} {pt2 : Pos} (hc : X.calm = true) (hN : X.N.Nodup) (ha : DA X W [a, b, c] false la) (hi : X.N[i]? = some x := by rfl) (hj : X.N[j]? = some y := by rfl) (hl : X.N[l]? = some z := by rfl) (hij : i ≠ j := by decide) (hil : i ≠ l := by decide) (hjl : j ≠ l := by decide)
    (hx : X.env.scope.names.lookup x = some .local := by rfl) (hy : X.env.scope.names.lookup y = some .local := by rfl) (hz : X.env.scope.names.lookup z = some .local := by rfl)
    (hw : swappedStores [.Tuple [.Name x px, .Name y py, .Name z pz] kt pt] (.Tuple [a, b, c] k2 pt2) X.env = pure (some [x, y, z]) := by rfl)
    (hs : swapsWithSole [.Tuple [.Name x px, .Name y py, .Name z pz] kt pt] (.Tuple [a, b, c] k2 pt2) pos.line X.env = pure false := by rfl) : DS X W (.Assign [.Tuple [.Name x px, .Name y py, .Name z pz] kt pt] (.Tuple [a, b, c] k2 pt2) pos) (sPar3 i j l la) :=
  PS.imp (ps_par3 hc hN hi hj hl hij hil hjl hx hy hz ha hw hs) fun D σ H ⟨F, own, δ, k, E, h, L⟩ => ⟨F, own, δ, _, _, L.at E, h, fun ds vs H' p s r => by
    obtain ⟨d, e, f, rfl, p⟩ := p
    have r := r.clean
    cases r with
    | cons r1 r => cases r with
      | cons r2 r => cases r with
        | cons r3 r => cases r; exact ⟨_, _, _, rfl, L.nx _ H' own _ ((((E.grow s).set i r1).set j r2).set l r3) p⟩⟩
end
theorem ex3 {α β γ : Type} {a : α} {b : β} {c : γ} {P : α → β → γ → Prop} : (∃ x y z, (a = x ∧ b = y ∧ c = z) ∧ P x y z) = P a b c := propext ⟨fun ⟨_, _, _, ⟨e, e', e''⟩, h⟩ => by subst e e' e''; exact h, fun h => ⟨a, b, c, ⟨rfl, rfl, rfl⟩, h⟩⟩
end DL
set_option Elab.async false
set_option linter.all false
set_option maxRecDepth 100000
set_option maxHeartbeats 4000000
/-! DL29: dicts: in, len, list(d), tuple(d), sorted(d), dict(d), dict(pairs), list(d.items()). -/
namespace DL
open PySem PySem.Spec PyProof.Rows L2
variable [TabsC]
/-! ### in, len -/
def rInY (K : PySem.W.Frag) (neg : Bool) : R2 := fun x y H Q => (∃ a o, y = .ref a ∧ DGet H a x o ∧ Q (.bl (neg ^^ o.isSome)) H) ∨ rInX K neg x y H Q
section
variable {X : Cx}
theorem op_notInY (hu : X.A.units + 65 < cLine) : OpR X (compareOp .NotIn) (rInY X.K true) := by
  intro pins s σ H x y v u Q I rx ry h
  rcases h with ⟨a, o, rfl, g, q⟩ | h
  · obtain rfl : u = Value.ref a := ry
    exact d_notIn (by omega) I g rx fun s' I' => ⟨.bl (!o.isSome), H, I', rfl, by simpa using q⟩
  · exact op_notInX hu pins s σ H x y v u Q I rx ry h
def fInY (neg : Bool) (x y : D) (Q : Bool → Prop) : Prop := match y with
  | .dict ds => ∃ key : Key, x = keyD key ∧ Q (neg ^^ (valD ds key).isSome)
  | y => fInX neg x y Q
theorem link_inY {neg : Bool} : LinkCmp X.K (rInY X.K neg) (fInY neg) := by
  intro fo ls H x y dx dy P Q rx ry h q
  unfold fInY at h
  split at h
  · obtain ⟨key, e, h⟩ := h
    subst e
    rw [kV_of rx]
    obtain ⟨a, kvs, rfl, h1, h2, h3⟩ := ry.dict
    refine .inl ⟨a, valV kvs key, rfl, .inl ⟨kvs, key, h1, rfl, rfl⟩, ?_⟩
    rename_i ds
    cases e : valD ds key with
    | none =>
      rw [h3.none key e]
      rw [e] at h
      exact q _ h
    | some w =>
      obtain ⟨u, hu', ru⟩ := h3.val key e
      rw [hu']
      rw [e] at h
      exact q _ h
  · exact .inr (link_inX fo ls H x y dx _ P Q rx ry h q)
def rLenY (K : PySem.W.Frag) : List V → Hp → VK → Prop := fun xs H Q => (∃ a kvs, xs = [V.ref a] ∧ Rd H a (.dK kvs) ∧ Q (.int kvs.length) H) ∨ ∃ x n, xs = [x] ∧ LenV K x H n ∧ Q (.int n) H
theorem call_lenY : CallR X (.builtin "len") (rLenY X.K) := by
  intro pins s σ H xs us Q I r h
  rcases h with ⟨a, kvs, rfl, e, q⟩ | h
  · obtain ⟨u, rfl, rx⟩ := vals1 r
    obtain rfl : u = Value.ref a := rx
    exact d_len I e fun t s' I' => ⟨.int kvs.length, H, I', ⟨t, rfl⟩, q⟩
  · exact call_len pins s σ H xs us Q I r h
def fLenY (ds : List D) (Q : D → Prop) : Prop := match ds with
  | [.dict kvs] => Q (.int kvs.length)
  | ds => fLen ds Q
theorem link_lenY : LinkB X.K (rLenY X.K) fLenY := by
  intro fo ls H vs ds P Q ht r h q
  unfold fLenY at h
  split at h
  · obtain ⟨v, rfl, rr⟩ := r.one
    obtain ⟨a, kvs, rfl, h1, h2, h3⟩ := rr.dict
    refine .inl ⟨a, kvs, rfl, h1, ?_⟩
    rw [h3.len]
    exact q _ _ H h (Same.refl H) (.int _)
  · exact .inr (link_len fo ls H vs _ P Q ht r h q)
/-! ### list(d) -/
end
section
variable {X : Cx}
def fListY (ds : List D) (Q : D → Prop) : Prop := match ds with
  | [.dict kvs] => Q (.list (kvs.map fun kv => keyD kv.1))
  | ds => fList ds Q
end
/-! ### tuple(d) -/
section
variable {X : Cx}
def fTupleY (ds : List D) (Q : D → Prop) : Prop := match ds with
  | [.dict kvs] => Q (.tup (kvs.map fun kv => keyD kv.1))
  | ds => fTuple ds Q
/-! ### sorted(d), dict(d), dict(pairs) -/
def fSortK (ds : List D) (Q : D → Prop) : Prop := ∃ (kvs : List (Key × D)) (ns : List Int), ds = [.dict kvs] ∧ kvs.map (·.1) = ns.map Sum.inl ∧ ns.length < 64 ∧ ∀ ms : List Int, ms.Perm ns → ms.Pairwise (· ≤ ·) → Q (.list (ms.map .int))
theorem link_sortK : LinkF X.K (fun xs H Q => ∃ (a : Addr) (kvs : List (Key × V)) (ks : List Int), xs = [V.ref a] ∧ Rd H a (.dK kvs) ∧ kvs.map (·.1) = ks.map Sum.inl ∧ ks.length < 64 ∧
    ∀ (ys : List Int) (p : Addr), ys.Perm ks → ys.Pairwise (· ≤ ·) → H p = none → Q (.ref p) (upd H p (.lst (ys.map V.int)))) fSortK := by
  intro fo ls H vs ds P Q ht r ⟨kvs, ns, e, hk, hl, h⟩ q
  subst e
  obtain ⟨v, rfl, rr⟩ := r.one
  obtain ⟨a, xs, rfl, h1, h2, h3⟩ := rr.dict
  refine ⟨a, xs, ns, rfl, h1, h3.keys0.trans hk, hl, fun ms p hp hs hn => q _ _ _ (h ms hp hs) hn (same_upd hn) (.l upd_same ?_ (Reps.ints ms))⟩
  rw [List.length_map, hp.length_eq, sizeLine_eq]
  omega
def fDictP (ds : List D) (Q : D → Prop) : Prop := ∃ kvs : List (Key × D), ds = [.list (kvs.map pairKD)] ∧ Q (.dict (mergeD [] kvs))
theorem reps_pairs {K : PySem.W.Frag} {fo ls : List Addr} {H H' : Hp} (hs : ∀ {a : Addr} {ys : List V}, SqT K (sub H ls) a ys → SqT K H' a ys) : ∀ {xs : List V} {kvs : List (Key × D)}, Reps K (sub H ls) xs (kvs.map pairKD) →
    ∃ (ps : List Addr) (ws : List (Key × V)), xs = ps.map V.ref ∧ Paired (fun p kv => SqT K H' p [kV kv.1, kv.2]) ps ws ∧ RepKs K (sub H ls) ws kvs
  | _, [], r => by
    cases r
    exact ⟨[], [], rfl, .nil, .nil⟩
  | _, (k, d) :: t, r => by
    cases r with
    | cons h rt =>
      obtain ⟨ps, ws, rfl, h1, h2⟩ := reps_pairs (fo := fo) hs rt
      cases h with
      | tup g1 g2 g3 =>
        cases g3 with
        | cons ra rb =>
          cases rb with
          | cons rb rc =>
            cases rc
            have ek := kV_of (fo := fo) (ls := ls) (b := true) (RV.cl ra)
            subst ek
            exact ⟨_ :: ps, (k, _) :: ws, rfl, .cons (hs g1) h1, .cons rb h2⟩
theorem link_dictP : LinkF X.K (fun xs H Q => ∃ (a : Addr) (ps : List Addr) (kvs : List (Key × V)), xs = [V.ref a] ∧ SqL X.K H a (ps.map V.ref) ∧ Paired (fun p kv => SqT X.K H p [kV kv.1, kv.2]) ps kvs ∧
    ∀ p, H p = none → Q (.ref p) (upd H p (.dK (mergeK [] kvs)))) fDictP := by
  intro fo ls H vs ds P Q ht r ⟨kvs, e, h⟩ q
  subst e
  obtain ⟨v, rfl, rr⟩ := r.one
  obtain ⟨a, xs, rfl, h1, h2, h3⟩ := rr.list
  obtain ⟨ps, ws, rfl, g1, g2⟩ := reps_pairs (fo := fo) (H' := H) (fun z => sameT sub_le z) h3
  refine ⟨a, ps, ws, rfl, .of h1, g1, fun p hp => q _ _ _ h hp (same_upd hp) (.d upd_same ?_ ((RepKs.merge g2 .nil).mono (sub_fresh hp (same_upd hp))))⟩
  have := length_mergeK ws []
  have := g2.len
  have := h3.length
  rw [List.length_map] at *
  simp only [List.length_nil, List.length_map] at *
  omega
end
end DL
set_option Elab.async false
set_option linter.all false
set_option maxRecDepth 100000
set_option maxHeartbeats 4000000
/-! DL30: dict comprehensions, list(d.items()), sums, == of dicts. -/
namespace DL
open PySem PySem.Spec PyProof.Rows L2
variable [TabsC]
def compD (g : GM) (mt : BM) (mk mv : TM) (δ0 : List DV) : List D → List (Key × D) → (D → Prop) → Prop
  | [], acc, Q => Q (.dict acc)
  | d :: ds, acc, Q => g d δ0 fun δ' => mt δ' (fun b => if b = true then mk δ' (fun kd => mv δ' (fun v => ∃ key : Key, kd = keyD key ∧ compD g mt mk mv δ0 ds (putD acc key v) Q) NoE) NoE else compD g mt mk mv δ0 ds acc Q) NoE
def mCompD (vs : List Nat) (mi : LM) (g : GM) (mt : BM) (mk mv : TM) : TM := fun δ Q E => mi δ (fun ds => compD g mt mk mv (wipeD δ vs) ds [] Q) E
def mListItems (ma : TM) : TM := fun δ Q E => ma δ (fun d => ∃ ds : List (Key × D), d = .dict ds ∧ Q (.list (ds.map pairKD))) E
end DL
set_option Elab.async false
set_option linter.all false
set_option maxRecDepth 100000
set_option maxHeartbeats 4000000
/-! DL31: == of dicts whose values are ints. -/
namespace DL
open PySem PySem.Spec PyProof.Rows L2
variable [TabsC]
def intsK (ds : List (Key × D)) : Prop := ∀ p, p ∈ ds → ∃ i : Int, p.2 = .int i
def sameD : D → D → Bool
  | .int i, .int j => i == j
  | _, _ => false
def eqK (ds es : List (Key × D)) : Bool := ds.length == es.length && ds.all fun p => match valD es p.1 with
  | some w => sameD p.2 w
  | none => false
def fEqY (x y : D) (Q : Bool → Prop) : Prop := match x, y with
  | .dict ds, .dict es => intsK ds ∧ intsK es ∧ Q (eqK ds es)
  | x, y => fEq x y Q
def fNeY (x y : D) (Q : Bool → Prop) : Prop := match x, y with
  | .dict ds, .dict es => intsK ds ∧ intsK es ∧ Q (!eqK ds es)
  | x, y => fNe x y Q
end DL
set_option Elab.async false
set_option linter.all false
set_option maxRecDepth 100000
set_option maxHeartbeats 4000000
/-! DL32: operators of own instances: ==, !=, in, len, str. -/
namespace DL
open PySem PySem.Spec PyProof.Rows L2
variable [TabsC]
/-! ### what a call of an own method gives, from data -/
/-! ### o == e, o != e -/
def okB (others : List Str) (b : D) : Prop := b.tyn.isSome = true ∨ ∃ m fs, b = .obj m fs ∧ m ∈ others
def FirstOwn (K : PySem.W.Frag) (others : List Str) : Prop := ∀ (m n : Str) (Cm Cn : Addr), m ∈ others → n ∈ others → PySem.W.nsIn K mainGlobals m = some (some (.ref Cm)) → PySem.W.nsIn K mainGlobals n = some (some (.ref Cn)) → PySem.W.notFirst K Cn (.ref Cm) = true
theorem FirstOwn.of {K : PySem.W.Frag} {others : List Str} (tbl : List (Str × Addr)) (h1 : others = tbl.map (·.1)) (hns : ∀ p ∈ tbl, PySem.W.nsIn K mainGlobals p.1 = some (some (.ref p.2)))
    (h2 : (tbl.all fun p => tbl.all fun q => PySem.W.notFirst K q.2 (.ref p.2)) = true) : FirstOwn K others := by
  intro m n Cm Cn hm hn em en
  rw [h1] at hm hn
  obtain ⟨p, hp, rfl⟩ := List.mem_map.mp hm
  obtain ⟨q, hq, rfl⟩ := List.mem_map.mp hn
  have ep := hns p hp
  have eq := hns q hq
  rw [ep] at em
  rw [eq] at en
  cases em
  cases en
  exact List.all_eq_true.mp (List.all_eq_true.mp h2 p hp) q hq
section
variable {X : Cx} {W : WX} {a b e : Expr} {ba bb : Bool} {ma mb : TM} {n : Str} {C g : Addr} {k : Nat} {m : FM} {pos p : Pos} {others : List Str} {FF : Fm} {own : List Addr}
def mEqO (n : Str) (others : List Str) (neg : Bool) (m : FM) (ma mb : TM) : TM := fun δ Q E => ma δ (fun a => mb δ (fun b => ∃ fs : List (Str × D), a = .obj n fs ∧ okB others b ∧ m [a, b] (fun r => ∃ c, r = .bool c ∧ Q (.bool (neg ^^ c))) NoE) E) E
/-! ### e in o -/
end
section
variable {X : Cx} {W : WX} {a b e : Expr} {ba bb : Bool} {ma mb : TM} {n : Str} {C g : Addr} {k : Nat} {m : FM} {pos p : Pos}
def mInO (n : Str) (neg : Bool) (m : FM) (ma mb : TM) : TM := fun δ Q E => ma δ (fun a => mb δ (fun b => ∃ fs : List (Str × D), b = .obj n fs ∧ m [b, a] (fun r => ∃ c, r = .bool c ∧ Q (.bool (neg ^^ c))) NoE) E) E
/-! ### len(o), str(o) -/
def mLenO (n : Str) (m : FM) (ma : TM) : TM := fun δ Q E => ma δ (fun a => ∃ fs : List (Str × D), a = .obj n fs ∧ m [a] (fun r => ∃ i : Int, r = .int i ∧ 0 ≤ i ∧ i < 2 ^ 62 ∧ Q r) NoE) E
def mStrO (n : Str) (m : FM) (ma : TM) : TM := fun δ Q E => ma δ (fun a => ∃ fs : List (Str × D), a = .obj n fs ∧ m [a] (fun r => ∃ z, r = .str z ∧ Q r) NoE) E
end
end DL
set_option Elab.async false
set_option linter.all false
set_option maxRecDepth 100000
set_option maxHeartbeats 4000000
/-! DL33: o + e, o - e, o * e of own instances; o[e]. -/
namespace PySem.W
open Lean Elab Tactic Meta PySem PySem.Calls PyProof.Rows
end PySem.W
namespace DL
open PySem PySem.Spec PyProof.Rows L2
variable [TabsC]
section
variable {X : Cx} {W : WX} {a b e : Expr} {ba bb : Bool} {ma mb : TM} {n : Str} {C g : Addr} {k : Nat} {m : FM} {pos p : Pos} {op : Operator}
def mBinO (n : Str) (m : FM) (ma mb : TM) : TM := fun δ Q E => ma δ (fun a => mb δ (fun b => ∃ fs : List (Str × D), a = .obj n fs ∧ (b.tyn.isSome = true ∨ ∃ gs : List (Str × D), b = .obj n gs) ∧ m [a, b] Q E) E) E
end
end DL
set_option Elab.async false
set_option linter.all false
set_option maxRecDepth 100000
set_option maxHeartbeats 4000000
/-! DL34: defs whose last parameter has a default. -/
namespace DL
open PySem PySem.Spec PyProof.Rows L2
end DL
set_option Elab.async false
set_option linter.all false
set_option maxRecDepth 100000
set_option maxHeartbeats 4000000
/-! DL35: list * int, x.append(y.pop(e)), sum(d.values()), readings of dict rules. -/
namespace DL
open PySem PySem.Spec PyProof.Rows L2
variable [TabsC]
/-! ### list * int -/
theorem Reps.flat {K : PySem.W.Frag} {H : Hp} {xs : List V} {ds : List D} (r : Reps K H xs ds) : ∀ n : Nat, Reps K H (List.replicate n xs).flatten (List.replicate n ds).flatten
  | 0 => .nil
  | n + 1 => by
    rw [List.replicate_succ, List.replicate_succ, List.flatten_cons, List.flatten_cons]
    exact r.append (Reps.flat r n)
theorem flat_len {α : Type} (xs : List α) : ∀ n : Nat, (List.replicate n xs).flatten.length = xs.length * n
  | 0 => by simp
  | n + 1 => by rw [List.replicate_succ, List.flatten_cons, List.length_append, flat_len xs n, Nat.mul_succ, Nat.add_comm]
section
variable {X : Cx} {W : WX} {a b c e : Expr} {ba bb : Bool} {ma mb : TM} {pos p apos cpos : Pos}
def mRep (ma mb : TM) : TM := fun δ Q E => ma δ (fun x => mb δ (fun y => ∃ ds k, x = .list ds ∧ y = .int k ∧ -(2 ^ 62) ≤ k ∧ k < 2 ^ 62 ∧ ds.length * k.toNat ≤ sizeLine ∧ Q (.list (List.replicate k.toNat ds).flatten)) E) E
theorem df_rep (ha : DE X W a ba ma) (hb : DE X W b bb mb) : DF X W (.BinOp a .Mult b pos) (mRep ma mb) :=
  PE.imp (pe_op op_rep ha hb) fun σ H Q ⟨F, own, δ, P, EK, A, mm, q⟩ => ⟨F, own, δ, _, EK, A, mm, fun d x H1 m1 s1 r1 => ⟨F, own, δ, _, EK, A.on s1, m1, fun d2 y H2 ⟨ds, k, ed, ek, k1, k2, hz, pd⟩ s2 r2 => by
    subst ed ek
    obtain ⟨l, xs, rfl, h1, h2, h3⟩ := (r1.mono s2.ob).list
    have ek := r2.isInt
    subst ek
    have el : xs.length * k.toNat ≤ sizeLine := by rw [h3.length]; exact hz
    refine ⟨l, k, xs, rfl, rfl, h1, by omega, by omega, el, fun p hp => q _ p _ pd ((s1.trans s2).free hp) ((s1.trans s2).trans (same_upd hp)) (.l upd_same (by rw [flat_len]; exact el) ((h3.flat _).mono (sub_fresh hp (same_upd hp))))⟩⟩⟩
/-! ### x.append(y.pop(e)) -/
theorem Reps.erase {K : PySem.W.Frag} {H : Hp} : ∀ {xs : List V} {ds : List D} (n : Nat), Reps K H xs ds → Reps K H (xs.eraseIdx n) (ds.eraseIdx n)
  | _, _, _, .nil => .nil
  | _, _, 0, .cons _ r => r
  | _, _, n + 1, .cons h r => .cons h (Reps.erase n r)
def sAppPop (i j : Nat) (ma : TM) : SM := fun δ k => ∃ ds, δ[i]? = some (.m (.list ds)) ∧ ∃ es, δ[j]? = some (.m (.list es)) ∧ ma δ (fun d => ∃ (n : Nat) (x : D), d = .int n ∧ es[n]? = some x ∧ ds.length < sizeLine ∧ k.nx ((δ.set j (.m (.list (es.eraseIdx n)))).set i (.m (.list (ds ++ [x]))))) (k.er δ)
end
end DL
namespace DL
open PySem PySem.Spec PyProof.Rows L2
variable [TabsC]
/-! ### sum(d.values()) -/
def mSumVals (ma : TM) : TM := fun δ Q E => ma δ (fun d => ∃ (ds : List (Key × D)) (ns : List Int), d = .dict ds ∧ ds.map (·.2) = ns.map .int ∧ Q (.int ns.sum)) E
/-! ### readings -/
theorem e_inD {neg : Bool} {x : D} {ds : List (Key × D)} {Q : Bool → Prop} : fInY neg x (.dict ds) Q = ∃ key : Key, x = keyD key ∧ Q (neg ^^ (valD ds key).isSome) := rfl
theorem e_lenD {ds : List (Key × D)} {Q : D → Prop} : fLenY [.dict ds] Q = Q (.int ds.length) := rfl
theorem e_listD {ds : List (Key × D)} {Q : D → Prop} : fListY [.dict ds] Q = Q (.list (ds.map fun kv => keyD kv.1)) := rfl
theorem e_tupD {ds : List (Key × D)} {Q : D → Prop} : fTupleY [.dict ds] Q = Q (.tup (ds.map fun kv => keyD kv.1)) := rfl
theorem e_eqD {ds es : List (Key × D)} {Q : Bool → Prop} : fEqY (.dict ds) (.dict es) Q = (intsK ds ∧ intsK es ∧ Q (eqK ds es)) := rfl
theorem e_neD {ds es : List (Key × D)} {Q : Bool → Prop} : fNeY (.dict ds) (.dict es) Q = (intsK ds ∧ intsK es ∧ Q (!eqK ds es)) := rfl
theorem e_keyI {i : Int} {P : Key → Prop} : (∃ key : Key, D.int i = keyD key ∧ P key) = P (.inl i) := by
  refine propext ⟨fun ⟨k, e, h⟩ => ?_, fun h => ⟨.inl i, rfl, h⟩⟩
  cases k with
  | inl j => injection e with e; subst e; exact h
  | inr z => injection e
theorem e_keyS {z : Str} {P : Key → Prop} : (∃ key : Key, D.str z = keyD key ∧ P key) = P (.inr z) := by
  refine propext ⟨fun ⟨k, e, h⟩ => ?_, fun h => ⟨.inr z, rfl, h⟩⟩
  cases k with
  | inl j => injection e
  | inr y => injection e with e; subst e; exact h
end DL
set_option Elab.async false
set_option linter.all false
set_option maxRecDepth 100000
set_option maxHeartbeats 4000000
/-! DL36: a, b = [..], [..], both one's own; d.get's form. -/
namespace DL
open PySem PySem.Spec PyProof.Rows L2
variable [TabsC]
section
variable {X : Cx} {W : WX} {a b e f o : Expr} {ma mb : TM} {x y : Str} {pos apos cpos : Pos}
def sParMM (i j : Nat) (ma mb : TM) : SM := fun δ k => ma δ (fun d => mb δ (fun e => k.nx ((δ.set i (.m d)).set j (.m e))) (k.er δ)) (k.er δ)
theorem M2.of {m : Str} (base : attributeBase o m X.env (eval o X.env) = eval o X.env := by rfl)
    (few : ((backTo cpos (starEach [e, f] X.env)).all (fun x => !x.1) && (backToKw cpos (keywordEach [] X.env)).all (fun x => x.1.isSome) && decide (([e, f] : List Expr).length + ([] : List Keyword).length + (if ([] : List Keyword).isEmpty then 0 else 1) < 30)) = true := by rfl)
    (line : (apos.endLine == cpos.line) = true := by rfl) (trees : backTo cpos (starEach [e, f] X.env) = [(false, eval e X.env), (false, eval f X.env)] := by rfl) : M2 X o m apos e f cpos := ⟨base, few, line, trees⟩
end
end DL
namespace DL
open PySem PySem.Spec PyProof.Rows L2
theorem mul_l {i j : Int} (h : -(2 ^ 64) < i) (h' : i < 2 ^ 64) : IntMulOk i j := CMul.ok (.inl ⟨h, h'⟩)
theorem mul_r {i j : Int} (h : -(2 ^ 64) < j) (h' : j < 2 ^ 64) : IntMulOk i j := CMul.ok (.inr ⟨h, h'⟩)
end DL
set_option Elab.async false
set_option linter.all false
set_option maxRecDepth 100000
set_option maxHeartbeats 4000000
/-! DL37: tables of ints as plain lists of pairs. -/
namespace DL
open PySem PySem.Spec PyProof.Rows L2
variable [TabsC]
abbrev Tab := List (Int × Int)
def tabD (L : Tab) : List (Key × D) := L.map fun p => (.inl p.1, .int p.2)
def valT (L : Tab) (k : Int) : Option Int := (L.find? fun p => decide (p.1 = k)).map (·.2)
def cntT (L : Tab) (k : Int) : Int := (valT L k).getD 0
def keysT (L : Tab) : List Int := L.map (·.1)
def sortT (L : Tab) : Tab := (setL (keysT L)).map fun k => (k, cntT L k)
theorem valT_none {L : Tab} {k : Int} (h : k ∉ keysT L) : valT L k = none := by
  unfold valT
  rw [List.find?_eq_none.mpr fun p hp => ?_] <;> try rfl
  intro z
  exact h (List.mem_map.mpr ⟨p, hp, of_decide_eq_true z⟩)
theorem valT_mem : ∀ {L : Tab} {p : Int × Int}, (keysT L).Nodup → p ∈ L → valT L p.1 = some p.2
  | q :: r, p, hn, h => by
    have hn := List.nodup_cons.mp hn
    unfold valT
    by_cases e : q.1 = p.1
    · rcases List.mem_cons.mp h with z | z
      · subst z
        rw [List.find?_cons_of_pos (by simp)]
        rfl
      · exact absurd (List.mem_map.mpr ⟨p, z, e.symm⟩) hn.1
    · rw [List.find?_cons_of_neg (by simpa using e)]
      rcases List.mem_cons.mp h with z | z
      · exact absurd (by rw [z]) e
      · exact valT_mem hn.2 z
theorem valT_some {L : Tab} {k v : Int} (h : valT L k = some v) : (k, v) ∈ L := by
  unfold valT at h
  obtain ⟨p, hp, e⟩ := Option.map_eq_some_iff.mp h
  have h1 := List.mem_of_find?_eq_some hp
  have h2 : p.1 = k := by
    have := List.find?_some hp
    exact of_decide_eq_true this
  subst h2 e
  exact h1
theorem valD_tab (L : Tab) (k : Int) : valD (tabD L) (.inl k) = (valT L k).map .int := by
  unfold valD tabD valT
  rw [List.find?_map, Option.map_map, Option.map_map]
  have e : ((fun kv : Key × D => decide (kv.1 = .inl k)) ∘ fun p : Int × Int => ((.inl p.1 : Key), D.int p.2)) = fun p => decide (p.1 = k) := by
    funext p
    simp [Function.comp]
  rw [e]
  rfl
theorem tab_keysL (L : Tab) : (tabD L).map (fun kv => keyD kv.1) = (keysT L).map .int := by
  unfold tabD keysT
  rw [List.map_map, List.map_map] <;> rfl
theorem tab_keysK (L : Tab) : (tabD L).map (·.1) = (keysT L).map Sum.inl := by
  unfold tabD keysT
  rw [List.map_map, List.map_map] <;> rfl
theorem tab_items (L : Tab) : (tabD L).map pairKD = L.map pairD := by
  unfold tabD
  rw [List.map_map] <;> rfl
theorem tab_pairs (L : Tab) : L.map pairD = (tabD L).map pairKD := (tab_items L).symm
theorem tab_len (L : Tab) : (tabD L).length = L.length := by
  unfold tabD
  rw [List.length_map]
theorem putD_new {L : Tab} {k v : Int} (h : k ∉ keysT L) : putD (tabD L) (.inl k) (.int v) = tabD (L ++ [(k, v)]) := by
  unfold putD
  rw [if_neg]
  · unfold tabD
    rw [List.map_append] <;> rfl
  · intro z
    obtain ⟨p, hp, e⟩ := List.any_eq_true.mp z
    obtain ⟨q, hq, rfl⟩ := List.mem_map.mp hp
    have e := of_decide_eq_true e
    cases e
    exact h (List.mem_map.mpr ⟨q, hq, rfl⟩)
theorem merge_new : ∀ {M L : Tab}, (keysT (L ++ M)).Nodup → mergeD (tabD L) (tabD M) = tabD (L ++ M)
  | [], L, _ => by rw [List.append_nil] <;> rfl
  | p :: M, L, h => by
    have e : L ++ p :: M = (L ++ [p]) ++ M := by simp
    show mergeD (putD (tabD L) (.inl p.1) (.int p.2)) (tabD M) = _
    rw [putD_new (v := p.2) (fun z => ?_), merge_new (by rw [← e]; exact h), e]
    unfold keysT at h z
    rw [List.map_append] at h
    exact (List.nodup_append.mp h).2.2 _ z _ (List.mem_cons_self) rfl
theorem merge_all {M : Tab} (h : (keysT M).Nodup) : mergeD [] (tabD M) = tabD M := merge_new (L := []) h
theorem sortT_keys (L : Tab) : keysT (sortT L) = setL (keysT L) := by
  unfold sortT keysT
  rw [List.map_map]
  exact List.map_id' _
theorem sortT_nodup (L : Tab) : (keysT (sortT L)).Nodup := by
  rw [sortT_keys]
  exact setL_pair.imp fun z => by omega
theorem cntT_mem {L : Tab} {p : Int × Int} (hn : (keysT L).Nodup) (h : p ∈ L) : cntT L p.1 = p.2 := by
  unfold cntT
  rw [valT_mem hn h] <;> rfl
theorem sortT_mem {L : Tab} (hn : (keysT L).Nodup) {p : Int × Int} : p ∈ sortT L ↔ p ∈ L := by
  unfold sortT
  constructor
  · intro h
    obtain ⟨k, hk, rfl⟩ := List.mem_map.mp h
    obtain ⟨q, hq, rfl⟩ := List.mem_map.mp (setL_mem.mp hk)
    rw [cntT_mem hn hq]
    exact hq
  · intro h
    refine List.mem_map.mpr ⟨p.1, setL_mem.mpr (List.mem_map.mpr ⟨p, h, rfl⟩), ?_⟩
    rw [cntT_mem hn h]
theorem nodup_of_keys {L : Tab} (hn : (keysT L).Nodup) : L.Nodup := by
  unfold keysT at hn
  exact (List.pairwise_map.mp hn).imp fun h e => h (by rw [e])
theorem sortT_perm {L : Tab} (hn : (keysT L).Nodup) : (sortT L).Perm L :=
  (List.perm_ext_iff_of_nodup (nodup_of_keys (sortT_nodup L)) (nodup_of_keys hn)).mpr fun _ => sortT_mem hn
theorem sortT_asc (L : Tab) : (sortT L).Pairwise (fun p q => p.1 < q.1) := by
  have h : (keysT (sortT L)).Pairwise (· < ·) := by rw [sortT_keys]; exact setL_pair
  exact List.pairwise_map.mp h
end DL
set_option Elab.async false
set_option linter.all false
set_option maxRecDepth 100000
set_option maxHeartbeats 4000000
/-! DL38: what can be paid out of a table whose sizes are a chain. -/
namespace DL
open PySem PySem.Spec PyProof.Rows L2
variable [TabsC]
structure ChT (L : Tab) : Prop where
  pos : ∀ p, p ∈ L → 1 ≤ p.1 ∧ 0 ≤ p.2
  asc : L.Pairwise fun p q => p.1 < q.1
  dvd : L.Pairwise fun p q => p.1 ∣ q.1
theorem ChT.init {L : Tab} {p : Int × Int} (h : ChT (L ++ [p])) : ChT L ∧ (∀ q, q ∈ L → q.1 < p.1 ∧ q.1 ∣ p.1) ∧ 1 ≤ p.1 ∧ 0 ≤ p.2 := by
  have a := List.pairwise_append.mp h.asc
  have d := List.pairwise_append.mp h.dvd
  have e := h.pos p (List.mem_append_right _ List.mem_cons_self)
  exact ⟨⟨fun q hq => h.pos q (List.mem_append_left _ hq), a.1, d.1⟩, fun q hq => ⟨a.2.2 q hq p List.mem_cons_self, d.2.2 q hq p List.mem_cons_self⟩, e.1, e.2⟩
end DL
set_option Elab.async false
set_option linter.all false
set_option maxRecDepth 100000
set_option maxHeartbeats 4000000
/-! DL39: dict comprehensions that make tables. -/
namespace DL
open PySem PySem.Spec PyProof.Rows L2
variable [TabsC]
def iOf : D → Int
  | .int i => i
  | _ => 0
theorem e_lk {f : Str} {v : D} {r : List (Str × D)} : List.lookup f ((f, v) :: r) = some v := by
  unfold List.lookup
  simp
end DL
set_option Elab.async false
set_option linter.all false
set_option maxRecDepth 100000
set_option maxHeartbeats 4000000
/-! DL40: f-strings of texts and ints. -/
namespace DL
open PySem PySem.Spec PyProof.Rows L2
variable [TabsC]
def mFmt (ma : TM) : TM := fun δ Q E => ma δ (fun d => (∃ y : Str, d = .str y ∧ y.length ≤ sizeLine ∧ Q (.str y)) ∨ ∃ i : Int, d = .int i ∧ i.natAbs.log2 < 1920 ∧ Q (.str (toString i))) E
def mJs : List TM → Str → List DV → (Str → Prop) → (Er → Prop) → Prop
  | [], acc, _, Q, _ => Q acc
  | m :: ms, acc, δ, Q, E => m δ (fun d => ∃ y : Str, d = .str y ∧ (acc ++ y).length ≤ sizeLine ∧ mJs ms (acc ++ y) δ Q E) E
def mJoined (ms : List TM) : TM := fun δ Q E => mJs ms Str.empty δ (fun out => Q (.str out)) E
end DL
namespace DL
open PySem PySem.Spec PyProof.Rows L2
variable [TabsC]
/-! ### o[e] of an own instance -/
section
variable {X : Cx} {W : WX} {a b : Expr} {ma mb : TM} {n : Str} {C g : Addr} {k : Nat} {m : FM} {pos : Pos}
def mGetO (n : Str) (m : FM) (ma mb : TM) : TM := fun δ Q E => ma δ (fun a => mb δ (fun b => ∃ fs : List (Str × D), a = .obj n fs ∧ m [a, b] Q NoE) E) E
end
end DL
set_option Elab.async false
set_option linter.all false
set_option maxRecDepth 100000
set_option maxHeartbeats 4000000
/-! DL41: enumerate(a tuple). -/
namespace DL
open PySem PySem.Spec PyProof.Rows L2
variable [TabsC]
def enumD (ds : List D) : List D := ds.zipIdx.map fun p => .tup [.int p.2, p.1]
theorem enumD_get {ds : List D} {i : Nat} {d : D} (h : ds[i]? = some d) : (enumD ds)[i]? = some (.tup [.int i, d]) := by
  unfold enumD
  rw [List.getElem?_map, List.getElem?_zipIdx, h]
  simp
theorem enumD_len (ds : List D) : (enumD ds).length = ds.length := by unfold enumD; rw [List.length_map, List.length_zipIdx]
section
variable {X : Cx} {W : WX} {e : Expr} {ba : Bool} {la : LM} {p pos : Pos}
def mEnumT (la : LM) : LM := fun δ P E => la δ (fun ds => ∃ xs, ds = [.tup xs] ∧ P (enumD xs)) E
end
end DL
set_option Elab.async false
set_option linter.all false
set_option maxRecDepth 100000
set_option maxHeartbeats 4000000
/-! DL42: sorted of tuples of ints. -/
namespace DL
open PySem PySem.Spec PyProof.Rows L2
end DL
set_option Elab.async false
set_option linter.all false
set_option maxRecDepth 100000
set_option maxHeartbeats 4000000
/-! DL43: thunks: x(lambda: e), where x is a def that calls what it is handed. -/
namespace DL
open PySem PySem.Spec PyProof.Rows L2
variable [TabsC]
/-! ### what the def that is handed the thunk may do with it -/
abbrev TL := (D → Prop) → (Er → Prop) → Prop
def mThk (i : Nat) (f : Addr) (Hc : Hp) (tl : TL) : TM := fun δ Q E => δ[i]? = some (.v (.opq f Hc)) ∧ tl Q E
abbrev goCx (P : Program) (w : World) (K : PySem.W.Frag) (mg : Str → Option Value) (base : Heap) (Ng : List Str) (qg : Str) (sg : Scope) (g : Addr) (cdg : Value) (A : Around) (outer : List Env) (s : Shared) (H : Hp) (Eg : XK) (pn : List (Addr × Obj)) (xe : Value → Shared → Prop) : Cx :=
  (cxOf (L2.CX P w) P w K mg base Ng qg sg g cdg A outer s H Eg).tr pn xe
def ThkOk (P : Program) (w : World) (K : PySem.W.Frag) (mg : Str → Option Value) (base : Heap) (kb : Nat) (A : Around) (outer : List Env) (s : Shared) (H : Hp) (f : Addr) (Hc : Hp) (tl : TL) : Prop :=
  ∀ {Ng : List Str} {qg : Str} {sg : Scope} {g : Addr} {cdg : Value} {Eg : XK} {i : Nat} {a : Str} {pn : List (Addr × Obj)} {xe : Value → Shared → Prop} {W : WX} {p1 p2 : Pos}, Ng[i]? = some a → Vis sg a → (a == ("__debug__" : Str)) = false → (a == ("__classdict__" : Str)) = false →
    Room (kb + 1) (A.deeper (envOfC qg sg s.heap.objs.size g cdg)) → Takes (goCx P w K mg base Ng qg sg g cdg A outer s H Eg pn xe) W → DE (goCx P w K mg base Ng qg sg g cdg A outer s H Eg pn xe) W (.Call (.Name a p1) [] [] p2) false (mThk i f Hc tl)
/-- the maker's names as the thunk sees them -/
def demote (δ : List DV) : List DV := δ.map fun
  | .v d => .v d
  | _ => .u
section
variable {X : Cx} {pins : List (Addr × Obj)} {σ : L2.St} {H : Hp} {s : Shared}
/-- a def that is handed one thunk -/
def FnT (P : Program) (w : World) (K : PySem.W.Frag) (mg : Str → Option Value) (base : Heap) (kb k : Nat) (g : Addr) (M : TL → TL) : Prop :=
  ∀ (f : Addr) (Hc : Hp) (tl : TL) (A : Around) (outer : List Env) (s : Shared) (H : Hp) (Q : VK) (E : XK), GdOk A base → Room k A → Env0 P w K mg base A outer s H → ThkOk P w K mg base kb A outer s H f Hc tl → spD K (fun ds Q E => ds = [.opq f Hc] ∧ M tl Q E) [.ref f] H Q E →
    codeAny (model P w) A (.call (.ref g) ⟨[.ref f], []⟩) (CR (L2.CX P w) outer P w H s Q E) s
theorem FnT.imp {P : Program} {w : World} {K : PySem.W.Frag} {mg : Str → Option Value} {base : Heap} {kb k : Nat} {g : Addr} {M M' : TL → TL} (F : FnT P w K mg base kb k g M) (h : ∀ tl Q E, M' tl Q E → M tl Q E) : FnT P w K mg base kb k g M' :=
  fun f Hc tl A outer s H Q E hG hr e0 ok ⟨fo, ds, P, EK, t, tb, rs, ⟨e, m⟩, q⟩ => F f Hc tl A outer s H Q E hG hr e0 ok ⟨fo, ds, P, EK, t, tb, rs, ⟨e, h _ _ _ m⟩, q⟩
def mThunk (M : TL → TL) (mb : TM) : TM := fun δ Q E => M (fun Q' E' => mb (demote δ) Q' E') Q E
end
/-! ### defs whose code object is known; the end of a law that makes lambdas -/
end DL
namespace DL
theorem e_dm0 : demote [] = [] := rfl
theorem e_dmv (d : D) (r : List DV) : demote (.v d :: r) = .v d :: demote r := rfl
theorem e_dmu (r : List DV) : demote (.u :: r) = .u :: demote r := rfl
theorem e_dmm (d : D) (r : List DV) : demote (.m d :: r) = .u :: demote r := rfl
theorem e_dms (d : D) (r : List DV) : demote (.s d :: r) = .u :: demote r := rfl
end DL
set_option Elab.async false
set_option linter.all false
set_option maxRecDepth 100000
set_option maxHeartbeats 4000000
/-! DL44: xs[i] = e of a list of one's own; a def by its name; calls of a name that holds a def. -/
namespace DL
open PySem PySem.Spec PyProof.Rows L2
variable [TabsC]
theorem Reps.set {K : PySem.W.Frag} {H : Hp} {v : V} {d : D} (h : Rep K H v d) : ∀ {vs : List V} {ds : List D} (j : Nat), Reps K H vs ds → Reps K H (vs.set j v) (ds.set j d)
  | _, _, _, .nil => .nil
  | _, _, 0, .cons _ t => .cons h t
  | _, _, j + 1, .cons r t => .cons r (Reps.set h j t)
section
variable {X : Cx} {W : WX} {a b c e e2 o : Expr} {es : List Expr} {ba bb : Bool} {ma mb mc mk : TM} {la : LM} {pos p p2 pos2 : Pos} {x y : Str} {k : Nat}
def sPutL (i : Nat) (mk mv : TM) : SM := fun δ κ => mv δ (fun v => ∃ ds, δ[i]? = some (.m (.list ds)) ∧ mk δ (fun kd => ∃ (z : Int) (j : Nat), kd = .int z ∧ ixN ds.length z = some j ∧ κ.nx (δ.set i (.m (.list (ds.set j v))))) (κ.er δ)) (κ.er δ)
theorem ds_putL (i : Nat) {ie : Expr} {p1 : Pos} (ho : PE X (.Name x p) (tVar i)) (hi : DE X W ie bb mk) (hv : DE X W e false ma) (hs : swapsWithSole [.Subscript (.Name x p) ie p1] e pos.line X.env = pure false := by rfl) (hw : swappedStores [.Subscript (.Name x p) ie p1] e X.env = pure none := by rfl)
    (h1 : (assignEach [.Subscript (.Name x p) ie p1] X.env).map (·.2) = [assign (.Subscript (.Name x p) ie p1) X.env] := by rfl)
    (ha : ∀ v, assign (.Subscript (.Name x p) ie p1) X.env v = (do
      let ov ← holding [v] (eval (.Name x p) X.env)
      let iv ← holding [v, ov] (eval ie X.env)
      standAt p1
      holding [v, ov, iv] (setItem ov iv v)
      release [v, ov, iv] []) := by intro _; rfl) :
    DS X W (.Assign [.Subscript (.Name x p) ie p1] e pos) (sPutL i mk ma) :=
  PS.imp (ps_asg hv (pg_sub ho hi set_list ha) hs hw h1) fun D σ H ⟨F, own, δ, κ, E, h, L⟩ => by
    refine ⟨F, own, δ, _, _, L.at E, h, fun d v H1 ⟨ds, hd, m1⟩ s1 r1 => ?_⟩
    have E1 := E.grow s1
    obtain ⟨a, xs, e1, ha, h1, h2, h3⟩ := mut_list E1 hd
    refine ⟨_, e1, F, own, δ, _, _, (L.at E).on s1, m1, fun kd kv H2 ⟨z, j, ek, hj, m2⟩ s2 r2 => ?_⟩
    subst ek
    have ekv := r2.isInt
    subst ekv
    have h1' := s2 _ _ h1
    refine ⟨a, xs, z, j, rfl, rfl, h1', by rw [h3.length]; exact hj, L.nx _ _ own _ ((E1.grow s2).put hd e1 h1' (.ml (E.sep a ha) upd_same (by rw [List.length_set]; exact h2) ?_)) m2⟩
    rw [sub_upd (List.mem_append_right _ ha)]
    exact (h3.mono (sub_same s2)).set (r1.clean.mono (sub_same s2)) j
/-! ### a name that holds a def -/
def mCallFn (i : Nat) (fs : List (Str × FM)) (la : LM) : TM := fun δ Q E => ∃ n m, δ[i]? = some (.v (.fn n)) ∧ (n, m) ∈ fs ∧ la δ (fun ds => m ds Q E) E
end
theorem ix_last {α : Type} (l : List α) (x : α) : ixN (l ++ [x]).length (-1) = some l.length := by
  unfold ixN
  rw [List.length_append, List.length_singleton]
  rw [if_neg (by omega)]
  simp
  constructor <;> omega
end DL
set_option Elab.async false
set_option linter.all false
set_option maxRecDepth 100000
set_option maxHeartbeats 4000000
/-! DL45: try: call() / except A: return 'a' / except B as e: return 'b ' + repr(e.f): what it says, told once. -/
namespace DL
open PySem PySem.Spec PyProof.Rows L2
variable [TabsC]
theorem e_dmc (x : DV) (r : List DV) : demote (x :: r) = (match x with | .v d => .v d | _ => .u) :: demote r := rfl
end DL
namespace DL
open PySem PySem.Spec PyProof.Rows L2
end DL
set_option Elab.async false
set_option linter.all false
set_option maxRecDepth 100000
set_option maxHeartbeats 4000000
/-! DL46: f(a, .., k = b); a tuple times a number. -/
namespace DL
open PySem PySem.Spec PyProof.Rows L2
variable [TabsC]
/-- a def called with its last parameters by name -/
def FnK (P : Program) (w : World) (K : PySem.W.Frag) (mg : Str → Option Value) (base : Heap) (k : Nat) (f : Addr) (n : Nat) (ks : List Str) (m : FM) : Prop :=
  ∀ (A : Around) (outer : List Env) (s : Shared) (H : Hp) (us ws : List Value) (vs zs : List V) (Q : VK) (E : XK), GdOk A base → Room k A → Env0 P w K mg base A outer s H → Vals vs us → Vals zs ws → vs.length = n → zs.length = ks.length → spD K m (vs ++ zs) H Q E →
    codeAny (model P w) A (.call (.ref f) ⟨us, ks.zip ws⟩) (CR (L2.CX P w) outer P w H s Q E) s
theorem FnK.imp {P : Program} {w : World} {K : PySem.W.Frag} {mg : Str → Option Value} {base : Heap} {k n : Nat} {ks : List Str} {f : Addr} {m m' : FM} (F : FnK P w K mg base k f n ks m) (h : ∀ ds Q E, m' ds Q E → m ds Q E) : FnK P w K mg base k f n ks m' :=
  fun A outer s H us ws vs zs Q E hG hr e r rz l1 l2 ⟨fo, ds, P, EK, t, tb, rs, m, q⟩ => F A outer s H us ws vs zs Q E hG hr e r rz l1 l2 ⟨fo, ds, P, EK, t, tb, rs, h _ _ _ m, q⟩
section
variable {X : Cx} {W : WX} {a b c e o : Expr} {es : List Expr} {kws : List Keyword} {ba bb : Bool} {ma mb mc : TM} {la lk : LM} {p pos kpos : Pos} {x : Str} {k n : Nat} {f : Addr} {m : FM} {ks : List Str} {nm : Option Str}
theorem PK.imp {X : Cx} {kws : List Keyword} {t t' : TA} (h : PK X kws t) (g : ∀ σ H Q, t' σ H Q → t σ H Q) : PK X kws t' := ⟨fun pos pins s σ H Q I q => h.run pos pins s σ H Q I (g _ _ _ q)⟩
def mCallK (m : FM) (n l : Nat) (la lk : LM) : TM := fun δ Q E => la δ (fun ds => lk δ (fun es => ds.length = n ∧ es.length = l ∧ m (ds ++ es) Q E) E) E
/-- a tuple times a number -/
def mRepT (ma mb : TM) : TM := fun δ Q E => ma δ (fun x => mb δ (fun y => ∃ ds k, x = .tup ds ∧ y = .int k ∧ ds ≠ [] ∧ 2 ≤ k ∧ k ≤ 1000 ∧ ds.length ≤ 1000 ∧ Q (.tup (List.replicate k.toNat ds).flatten)) E) E
end
end DL
set_option Elab.async false
set_option linter.all false
set_option maxRecDepth 100000
set_option maxHeartbeats 4000000
/-! DL47: range(i, j, -1). -/
namespace DL
open PySem PySem.Spec PyProof.Rows L2
variable [TabsC]
def downD (hi : Int) (n : Nat) : List D := (List.range n).map fun k : Nat => D.int (hi - k)
section
variable {X : Cx} {W : WX} {a b c : Expr} {ba : Bool} {la : LM} {pos p : Pos}
def mRange3 (la : LM) : LM := fun δ P E => la δ (fun ds => ∃ i j : Int, ds = [.int i, .int j, .int (-1)] ∧ -(2 ^ 61) ≤ i ∧ i < 2 ^ 61 ∧ -(2 ^ 61) ≤ j ∧ j < 2 ^ 61 ∧ (i - j).toNat ≤ sizeLine ∧ P (downD i (i - j).toNat)) E
end
end DL
set_option Elab.async false
set_option linter.all false
set_option maxRecDepth 100000
set_option maxHeartbeats 4000000
/-! DL48: plain facts: runs of rooms, lots, levels. -/
namespace DL
open PySem PySem.Spec PyProof.Rows L2
variable [TabsC]
abbrev Runs := List (Int × Int)
def mstep (acc : Runs) (p : Int × Int) : Runs := match acc.getLast? with
  | some q => if q.1 = p.1 then acc.dropLast ++ [(p.1, q.2 + p.2)] else acc ++ [p]
  | none => acc ++ [p]
def mergeT (L : Runs) : Runs := L.foldl mstep []
theorem mergeT_snoc (L : Runs) (p : Int × Int) : mergeT (L ++ [p]) = mstep (mergeT L) p := by unfold mergeT; rw [List.foldl_append] <;> rfl
theorem mstep_end (acc : Runs) (q p : Int × Int) : mstep (acc ++ [q]) p = if q.1 = p.1 then acc ++ [(p.1, q.2 + p.2)] else acc ++ [q] ++ [p] := by
  unfold mstep
  rw [List.getLast?_append]
  simp
theorem mstep_len (acc : Runs) (p : Int × Int) : (mstep acc p).length ≤ acc.length + 1 := by
  rcases List.eq_nil_or_concat acc with rfl | ⟨l, q, rfl⟩
  · simp [mstep]
  · rw [List.concat_eq_append, mstep_end]
    split <;> simp
theorem mergeT_len (L : Runs) : (mergeT L).length ≤ L.length := by
  have : ∀ (n : Nat), (mergeT (L.take n)).length ≤ n := fun n => by
    induction n with
    | zero => simp [mergeT]
    | succ n ih =>
      by_cases h : n < L.length
      · rw [List.take_succ_eq_append_getElem h, mergeT_snoc]
        have := mstep_len (mergeT (L.take n)) L[n]
        omega
      · rw [List.take_of_length_le (by omega)] at ih ⊢
        omega
  have := this L.length
  rwa [List.take_length] at this
theorem fineR (L : Runs) : fineN 2 (.list (L.map pairD)) := fineN_list fun d hd => by
  obtain ⟨p, hp, rfl⟩ := List.mem_map.mp hd
  exact fineP p
theorem div_ok' {i j : Int} (h : 1 ≤ j) (h' : j < 10 ^ 200) : CDivW i j := wide_div (b := 700) (by omega) (by
  have : j.natAbs < 10 ^ 200 := by
    have := Int.natAbs_of_nonneg (show 0 ≤ j by omega)
    omega
  exact Nat.lt_trans this (by decide +kernel)) (by decide) (by decide)
def spaceT (L : Runs) (s : Int) : Int := (L.map fun p => p.2 * (p.1 / s)).sum
/-- units of a lot at a size -/
def unitsT (L : Tab) (s : Int) : Int := ((L.filter fun p => decide (p.1 ≥ s)).map fun p => p.1 * p.2).sum / s
def bndL (L : Tab) : Prop := (keysT L).Nodup ∧ L.length ≤ 12 ∧ ∀ p, p ∈ L → (1 ≤ p.1 ∧ p.1 < 10 ^ 50) ∧ (1 ≤ p.2 ∧ p.2 < 10 ^ 120)
theorem div_le' {a s : Int} (ha : 0 ≤ a) (hs : 1 ≤ s) : 0 ≤ a / s ∧ a / s ≤ a := ⟨Int.ediv_nonneg ha (by omega), Int.ediv_le_self s ha⟩
theorem keys_len (L : Tab) : (keysT L).length = L.length := by unfold keysT; rw [List.length_map]
theorem sum_le {α : Type} {f : α → Int} {B : Int} (hB : 0 ≤ B) : ∀ {l : List α}, (∀ x, x ∈ l → 0 ≤ f x ∧ f x ≤ B) → 0 ≤ (l.map f).sum ∧ (l.map f).sum ≤ B * l.length
  | [], _ => by simp
  | x :: r, h => by
    have ih := sum_le hB fun y hy => h y (List.mem_cons_of_mem _ hy)
    have hx := h x List.mem_cons_self
    have e : B * ((x :: r).length : Int) = B * r.length + B := by rw [List.length_cons, Int.natCast_succ, Int.mul_add, Int.mul_one]
    rw [List.map_cons, List.sum_cons, e]
    omega
theorem bndL.units {L : Tab} (h : bndL L) {s : Int} (hs : 1 ≤ s) : 0 ≤ unitsT L s ∧ unitsT L s ≤ 10 ^ 172 := by
  have b : (10 : Int) ^ 50 * 10 ^ 120 * 12 ≤ 10 ^ 172 := by decide +kernel
  have := sum_le (f := fun p : Int × Int => p.1 * p.2) (B := 10 ^ 50 * 10 ^ 120) (by decide +kernel) (l := L.filter fun p => decide (p.1 ≥ s)) fun p hp => by
    have hb := h.2.2 p (List.mem_filter.mp hp).1
    exact ⟨Int.mul_nonneg (by omega) (by omega), Int.mul_le_mul (by omega) (by omega) (by omega) (by decide +kernel)⟩
  have l := List.length_filter_le (fun p : Int × Int => decide (p.1 ≥ s)) L
  have c : (10 : Int) ^ 50 * 10 ^ 120 * ((L.filter fun p => decide (p.1 ≥ s)).length : Int) ≤ 10 ^ 50 * 10 ^ 120 * 12 := Int.mul_le_mul_of_nonneg_left (by have := h.2.1; omega) (by decide +kernel)
  have d := div_le' (a := ((L.filter fun p => decide (p.1 ≥ s)).map fun p => p.1 * p.2).sum) (s := s) this.1 hs
  unfold unitsT
  omega
theorem keys_app (L : Tab) (p : Int × Int) : keysT (L ++ [p]) = keysT L ++ [p.1] := by unfold keysT; rw [List.map_append] <;> rfl
end DL
set_option Elab.async false
set_option linter.all false
set_option maxRecDepth 100000
set_option maxHeartbeats 4000000
/-! DL49: a, b, .. = a list. -/
namespace DL
open PySem PySem.Spec PyProof.Rows L2
variable [TabsC]
section
variable {X : Cx} {es : List Expr} {pos : Pos}
def gL (n : Nat) (gs : GMs) : GM := fun d δ P => ∃ ds, d = .list ds ∧ ds.length = n ∧ gs ds δ P
end
end DL
set_option Elab.async false
set_option linter.all false
set_option maxRecDepth 100000
set_option maxHeartbeats 4000000
/-! DL50: things of a chain fit into rooms just if no size bars them: the plain law. -/
namespace DL
open PySem PySem.Spec PyProof.Rows L2
end DL
set_option Elab.async false
set_option linter.all false
set_option maxRecDepth 100000
set_option maxHeartbeats 4000000
/-! DL51: plain facts: stores of wide numbers, further rooms. -/
namespace DL
open PySem PySem.Spec PyProof.Rows L2
end DL
set_option Elab.async false
set_option linter.all false
set_option maxRecDepth 100000
set_option maxHeartbeats 4000000
/-! DL52: dicts with tuples as keys. -/
namespace DL
open PySem PySem.Spec PyProof.Rows L2
variable [TabsC]
section
variable {X : Cx} {W : WX} {a b c e e2 o : Expr} {es : List Expr} {ba bb : Bool} {ma mb mc mt : TM} {la : LM} {pos p p2 pos2 : Pos} {x y : Str} {k : Nat}
/-! ### d[tuple(e)] = v -/
def putTD (kvs : List (List Key × D)) (k : List Key) (v : D) : List (List Key × D) := if (kvs.any fun kv => decide (kv.1 = k)) = true then kvs.map (fun kv => if kv.1 = k then (kv.1, v) else kv) else kvs ++ [(k, v)]
theorem tkeys_any {α β : Type} {k : List Key} : ∀ {l : List (List Key × α)} {m : List (List Key × β)}, l.map (·.1) = m.map (·.1) → (l.any fun kv => decide (kv.1 = k)) = (m.any fun kv => decide (kv.1 = k))
  | [], [], _ => rfl
  | [], _ :: _, e => by cases e
  | _ :: _, [], e => by cases e
  | x :: l, y :: m, e => by
    rw [List.map_cons, List.map_cons] at e
    injection e with e1 e2
    rw [List.any_cons, List.any_cons, tkeys_any e2, e1]
theorem RepTs.put {K : PySem.W.Frag} {H : Hp} {k : List Key} {v : V} {d : D} (rv : Rep K H v d) : ∀ {vs : List (List Key × V)} {ds : List (List Key × D)}, RepTs K H vs ds → RepTs K H (putK vs k v) (putTD ds k d) := by
  have repl : ∀ {vs : List (List Key × V)} {ds : List (List Key × D)}, vs.map (·.1) = ds.map (·.1) → Reps K H (vs.map (·.2)) (ds.map (·.2)) → Reps K H ((vs.map fun kv => if kv.1 = k then (kv.1, v) else kv).map (·.2)) ((ds.map fun kv => if kv.1 = k then (kv.1, d) else kv).map (·.2)) := by
    intro vs
    induction vs with
    | nil =>
      intro ds e r
      cases ds with
      | nil => exact .nil
      | cons y ds => cases e
    | cons x vs ih =>
      intro ds e r
      cases ds with
      | nil => cases e
      | cons y ds =>
        rw [List.map_cons, List.map_cons] at e
        injection e with e1 e2
        cases r with
        | cons r1 r2 =>
          have rr := ih e2 r2
          by_cases h : x.1 = k
          · rw [List.map_cons, List.map_cons, List.map_cons, List.map_cons, if_pos h, if_pos (e1 ▸ h)]
            exact .cons rv rr
          · rw [List.map_cons, List.map_cons, List.map_cons, List.map_cons, if_neg h, if_neg (e1 ▸ h)]
            exact .cons r1 rr
  have keys : ∀ {α : Type} (v : α) (vs : List (List Key × α)), (vs.map fun kv => if kv.1 = k then (kv.1, v) else kv).map (·.1) = vs.map (·.1) := fun v vs => by
    rw [List.map_map]
    refine List.map_congr_left fun x _ => ?_
    show (if x.1 = k then (x.1, v) else x).1 = x.1
    split <;> rfl
  intro vs ds r
  unfold putK putTD
  rw [tkeys_any (k := k) r.1]
  split
  · exact ⟨by rw [keys v vs, keys d ds]; exact r.1, repl r.1 r.2⟩
  · refine ⟨by rw [List.map_append, List.map_append, r.1] <;> rfl, ?_⟩
    rw [List.map_append, List.map_append]
    exact r.2.append (.cons rv .nil)
def sPutT (i : Nat) (mt mv : TM) : SM := fun δ κ => mv δ (fun v => ∃ ds, δ[i]? = some (.m (.tdict ds)) ∧ mt δ (fun ld => ∃ ks : List Key, ld = .list (ks.map keyD) ∧ ds.length < sizeLine ∧ κ.nx (δ.set i (.m (.tdict (putTD ds ks v))))) (κ.er δ)) (κ.er δ)
/-! ### list(d) -/
end
end DL
set_option Elab.async false
set_option linter.all false
set_option maxRecDepth 100000
set_option maxHeartbeats 4000000
/-! DL53: single things, single rooms, all ways: plain facts. -/
namespace DL
open PySem PySem.Spec PyProof.Rows L2
variable [TabsC]
theorem setL_perm' {xs : List Int} (hn : xs.Nodup) : (setL xs).Perm xs :=
  (List.perm_ext_iff_of_nodup (setL_pair.imp fun h => Int.ne_of_lt h) hn).mpr fun _ => setL_mem
/-- in a chain the lesser sizes divide the greater ones -/
theorem chain_dvd {l : List Int} (h1 : l.Pairwise (· < ·)) (h2 : l.Pairwise (· ∣ ·)) {a b : Int} (ha : a ∈ l) (hb : b ∈ l) (hl : a ≤ b) : a ∣ b := by
  obtain ⟨i, hi, rfl⟩ := List.mem_iff_getElem.mp ha
  obtain ⟨j, hj, rfl⟩ := List.mem_iff_getElem.mp hb
  rcases Nat.lt_trichotomy i j with c | c | c
  · exact List.pairwise_iff_getElem.mp h2 i j hi hj c
  · subst c; exact Int.dvd_refl _
  · have := List.pairwise_iff_getElem.mp h1 j i hj hi c
    omega
/-! ### a dict as a row of different tuples -/
/-! ### how many different rows there are -/
theorem nodup_sub {α : Type} [DecidableEq α] : ∀ {W U : List α}, W.Nodup → (∀ v, v ∈ W → v ∈ U) → W.length ≤ U.length
  | [], _, _, _ => Nat.zero_le _
  | v :: W, U, hn, h => by
    have hn' := List.nodup_cons.mp hn
    have hv := h v List.mem_cons_self
    have ih := nodup_sub (U := U.erase v) hn'.2 fun w hw => (List.mem_erase_of_ne fun e => hn'.1 (by rw [← e]; exact hw)).mpr (h w (List.mem_cons_of_mem _ hw))
    rw [List.length_erase_of_mem hv] at ih
    have : 0 < U.length := List.length_pos_of_mem hv
    rw [List.length_cons]
    omega
end DL
set_option Elab.async false
set_option linter.all false
set_option maxRecDepth 100000
set_option maxHeartbeats 4000000
/-! DL54: spare things: plain facts. -/
namespace DL
open PySem PySem.Spec PyProof.Rows L2
variable [TabsC]
def sumT (L : Tab) (s : Int) : Int := ((L.filter fun p => decide (p.1 ≥ s)).map fun p => p.1 * p.2).sum
theorem sumT_cons (p : Int × Int) (r : Tab) (s : Int) : sumT (p :: r) s = (if p.1 ≥ s then p.1 * p.2 else 0) + sumT r s := by
  unfold sumT
  rw [List.filter_cons]
  by_cases h : p.1 ≥ s
  · rw [if_pos (decide_eq_true h), if_pos h, List.map_cons, List.sum_cons]
  · rw [if_neg (by rw [decide_eq_true_eq]; exact h), if_neg h, Int.zero_add]
/-! ### how many more fit -/
end DL
set_option Elab.async false
set_option linter.all false
set_option maxRecDepth 100000
set_option maxHeartbeats 4000000
/-! DL55: a law's end over a head that is run once: what the end leans on is asked of the heap by one Hook. -/
namespace DL
open PySem PySem.Spec PyProof.Rows L2
structure FD where
  at_ : PySem.W.Frag → Addr
  name : Str
  qual : Str
  params : Arguments
  body : List Stmt
  scope : Scope
def fnV (K : PySem.W.Frag) (a : Addr) : He.FnW := match K.lookup a with
  | some ⟨_, _, .func fd, _⟩ => some (fd.name, fd.qualname, fd.params, fd.body, fd.scope, fd.globals, fd.closure, fd.builtins)
  | _ => none
def FD.val (d : FD) : He.FnW := some (d.name, d.qual, d.params, .stmts d.body, d.scope, mainGlobals, [], builtinsNs)
def funOf (K : PySem.W.Frag) (a : Addr) : Option FuncData := match K.lookup a with
  | some ⟨_, _, .func fd, _⟩ => some fd
  | _ => none
theorem fn_look {K : PySem.W.Frag} {a : Addr} {n q : Str} {ps : Arguments} {b : List Stmt} {sc : Scope} (e : fnV K a = some (n, q, ps, .stmts b, sc, mainGlobals, [], builtinsNs)) :
    ∃ oc od dV kV dc pm an cd ct sl, K.lookup a = some ⟨oc, od, .func (PySem.W.fnOf n q ps b sc dV kV dc pm an cd ct), sl⟩ ∧ funOf K a = some (PySem.W.fnOf n q ps b sc dV kV dc pm an cd ct) := by
  unfold fnV at e
  unfold funOf
  cases l : K.lookup a with
  | none => rw [l] at e; cases e
  | some o =>
    obtain ⟨oc, od, dt, osl⟩ := o
    rw [l] at e
    cases dt with
    | func fd =>
      obtain ⟨n1, n2, n3, n4, n5, n6, n7, n8, n9, n10, n11, n12, n13, n14, n15⟩ := fd
      have e2 : (some (n1, n2, n3, n4, n5, n6, n7, n15) : He.FnW) = some (n, q, ps, .stmts b, sc, mainGlobals, [], builtinsNs) := e
      simp only [Option.some.injEq, Prod.mk.injEq] at e2
      obtain ⟨h1, h2, h3, h4, h5, h6, h7, h8⟩ := e2
      subst h1 h2 h3 h4 h5 h6 h7 h8
      exact ⟨oc, od, n8, n9, n10, n11, n12, n13, n14, osl, rfl, rfl⟩
    | _ => cases e
/-- a def of no default -/
def fnB0 (K : PySem.W.Frag) (a : Addr) (q : Str) : Bool := match funOf K a with
  | some fd => PySem.W.codeIn K fd.code q && (match fd.defaults with | .none => true | _ => false)
  | none => false
theorem fn_ok0 {K : PySem.W.Frag} {a : Addr} {n q : Str} {ps : Arguments} {b : List Stmt} {sc : Scope} (e : fnV K a = some (n, q, ps, .stmts b, sc, mainGlobals, [], builtinsNs)) (c : fnB0 K a q = true) :
    ∃ oc od kV dc pm an cd ct sl, K.lookup a = some ⟨oc, od, .func (PySem.W.fnOf n q ps b sc .none kV dc pm an cd ct), sl⟩ ∧ PySem.W.codeIn K cd q = true := by
  obtain ⟨oc, od, dV, kV, dc, pm, an, cd, ct, sl, l, f⟩ := fn_look e
  unfold fnB0 at c
  rw [f] at c
  obtain ⟨c1, c2⟩ := He.ba c
  cases dV with
  | none => exact ⟨oc, od, kV, dc, pm, an, cd, ct, sl, l, c1⟩
  | _ => cases c2
/-- a def of no default at all -/
def fnBx (K : PySem.W.Frag) (a : Addr) (q : Str) : Bool := match funOf K a with
  | some fd => PySem.W.codeIn K fd.code q && ((match fd.defaults with | .none => true | _ => false) && match fd.kwdefaults with | .none => true | _ => false)
  | none => false
theorem fn_okx {K : PySem.W.Frag} {a : Addr} {n q : Str} {ps : Arguments} {b : List Stmt} {sc : Scope} (e : fnV K a = some (n, q, ps, .stmts b, sc, mainGlobals, [], builtinsNs)) (c : fnBx K a q = true) :
    ∃ oc od dc pm an cd ct sl, K.lookup a = some ⟨oc, od, .func (PySem.W.fnOf n q ps b sc .none .none dc pm an cd ct), sl⟩ ∧ PySem.W.codeIn K cd q = true := by
  obtain ⟨oc, od, dV, kV, dc, pm, an, cd, ct, sl, l, f⟩ := fn_look e
  unfold fnBx at c
  rw [f] at c
  obtain ⟨c1, c2⟩ := He.ba c
  obtain ⟨c2, c3⟩ := He.ba c2
  cases dV with
  | none =>
    cases kV with
    | none => exact ⟨oc, od, dc, pm, an, cd, ct, sl, l, c1⟩
    | _ => cases c3
  | _ => cases c2
/-- a property's function -/
def pfOf (K : PySem.W.Frag) (p : Addr) : Addr := match PySem.W.recIn K p "property" with
  | some (.ref f :: _) => f
  | _ => 0
def pfB (K : PySem.W.Frag) (p : Addr) : Bool := match PySem.W.recIn K p "property" with
  | some (.ref _ :: _) => true
  | _ => false
theorem pf_ok {K : PySem.W.Frag} {p : Addr} (c : pfB K p = true) : ∃ rs, PySem.W.recIn K p "property" = some (.ref (pfOf K p) :: rs) := by
  unfold pfB at c
  unfold pfOf
  cases e : PySem.W.recIn K p "property" with
  | none => rw [e] at c; cases c
  | some l =>
    rw [e] at c
    match l, c with
    | .ref f :: rs, _ => exact ⟨rs, rfl⟩
/-- an exception's class -/
def mroB (C : Addr) (tl : List Value) : List Value → Bool
  | .ref c :: bm => decide (c = C) && refsT tl bm
  | _ => false
theorem mroB_ok {C : Addr} {tl : List Value} : ∀ {m : List Value}, mroB C tl m = true → ∃ bm, m = .ref C :: bm ∧ refsT tl bm = true
  | .ref c :: bm, h => by
    obtain ⟨h1, h2⟩ := He.ba (show (decide (c = C) && refsT tl bm) = true from h)
    rw [of_decide_eq_true h1]
    exact ⟨bm, rfl, h2⟩
def slotB (newId : String) : List (Option Value) → Bool
  | [_, _, _, _, some v, _] => decide (v = .builtin newId)
  | _ => false
theorem slotB_ok {newId : String} : ∀ {l : List (Option Value)}, slotB newId l = true → ∃ k0 k1 k2 k3 k5, l = [k0, k1, k2, k3, some (.builtin newId), k5]
  | [k0, k1, k2, k3, some v, k5], h => by
    rw [show v = .builtin newId from of_decide_eq_true h]
    exact ⟨k0, k1, k2, k3, k5, rfl⟩
def xcB (K : PySem.W.Frag) (C : Addr) (tl : List Value) (newId : String) : Bool := match K.lookup C with
  | some ⟨cl, _, .cls cd, sl⟩ => decide (cl = .type "type") && (mroB C tl cd.mro && (cd.hasDict && (!cd.hasDel && slotB newId sl.toList)))
  | _ => false
theorem xc_ok {K : PySem.W.Frag} {C : Addr} {tl : List Value} {newId : String} (c : xcB K C tl newId = true) :
    ∃ n q N bs bm sn sub ab col dd k0 k1 k2 k3 k5, K.lookup C = some (excClassObj n q C N bs bm true sn sub ab col dd k0 k1 k2 k3 k5 newId) ∧ refsT tl bm = true := by
  unfold xcB at c
  cases e : K.lookup C with
  | none => rw [e] at c; cases c
  | some o =>
    obtain ⟨cl, dd, dt, sl⟩ := o
    rw [e] at c
    cases dt with
    | cls cd =>
      obtain ⟨c1, c⟩ := He.ba c
      obtain ⟨c2, c⟩ := He.ba c
      obtain ⟨c3, c⟩ := He.ba c
      obtain ⟨c4, c5⟩ := He.ba c
      obtain ⟨nm, bs, mro, ns, qn, hd, sn, sub, ab, col, dl⟩ := cd
      have c1 := of_decide_eq_true c1
      obtain ⟨bm, em, hr⟩ := mroB_ok (show mroB C tl mro = true from c2)
      obtain ⟨k0, k1, k2, k3, k5, es⟩ := slotB_ok c5
      have c3 : hd = true := c3
      have dl0 : dl = false := by
        have c4 : (!dl) = true := c4
        cases dl <;> first | rfl | cases c4
      have es' : sl = #[k0, k1, k2, k3, some (.builtin newId), k5] := by
        obtain ⟨sl⟩ := sl
        exact congrArg Array.mk es
      subst c1 em c3 dl0 es'
      exact ⟨nm, qn, ns, bs, bm, sn, sub, ab, col, dd, k0, k1, k2, k3, k5, rfl, hr⟩
    | _ => cases c
/-- constants -/
def ciB (K : PySem.W.Frag) (x : Str) (i : Int) : Bool := match PySem.W.nsIn K mainGlobals x with
  | some (some (.int j _)) => decide (j = i)
  | _ => false
theorem ci_ok {K : PySem.W.Frag} {x : Str} {i : Int} (c : ciB K x i = true) : ∃ t, PySem.W.nsIn K mainGlobals x = some (some (.int i t)) := by
  unfold ciB at c
  cases e : PySem.W.nsIn K mainGlobals x with
  | none => rw [e] at c; cases c
  | some o =>
    rw [e] at c
    match o, c with
    | some (.int j t), c =>
      have c : j = i := of_decide_eq_true c
      subst c
      exact ⟨t, rfl⟩
/-! ### the Hook -/
def frM (g : Addr → Option Obj) (n0 n : Nat) : PySem.W.Frag := He.frT g (mainGlobals :: List.range' n0 (n - n0))
def obsM (n0 : Nat) (fn : List FD) (ex : PySem.W.Frag → List Bool) (g : Addr → Option Obj) (n : Nat) : Bool × List He.FnW :=
  ((ex (frM g n0 n)).all id, fn.map fun d => fnV (frM g n0 n) (d.at_ (frM g n0 n)))
structure SaysM (fn : List FD) (ex : PySem.W.Frag → List Bool) (K : PySem.W.Frag) : Prop where
  ex : (ex K).all id = true
  fn : (fn.map fun d => fnV K (d.at_ K)) = fn.map FD.val
def hookM (n0 : Nat) (fn : List FD) (ex : PySem.W.Frag → List Bool) : PySem.W.Hook where
  α := Bool × List He.FnW
  obs := fun s => obsM n0 fn ex s.heap.get? s.heap.objs.size
  val := fun _ => (true, fn.map FD.val)
  says := fun _ h => ∃ K : PySem.W.Frag, K.In h ∧ SaysM fn ex K
  of := fun _ s e => ⟨frM s.heap.get? n0 s.heap.objs.size, He.frT_in, congrArg (fun z : Bool × List He.FnW => z.1) e, congrArg (fun z : Bool × List He.FnW => z.2) e⟩
  keeps := fun _ _ _ ⟨K, hK, c⟩ k => ⟨K, PySem.W.Frag.In.keeps hK k, c⟩
def obM (n0 : Nat) (fn : List FD) (ex : PySem.W.Frag → List Bool) (s : PySem.W.SharedT) : Bool × List He.FnW := obsM n0 fn ex (HandSHeadRun.getT s) s.n
theorem obM_eq {n0 : Nat} {fn : List FD} {ex : PySem.W.Frag → List Bool} (s : PySem.W.SharedT) : obM n0 fn ex s = (hookM n0 fn ex).obs s.abs := by
  have e : HandSHeadRun.getT s = s.abs.heap.get? := funext (HandSHeadRun.getT_eq s)
  have n : s.n = s.abs.heap.objs.size := (PySem.W.absHeap_size s.tree s.n s.life).symm
  show obsM n0 fn ex (HandSHeadRun.getT s) s.n = obsM n0 fn ex s.abs.heap.get? s.abs.heap.objs.size
  rw [e, ← n]
theorem SaysM.b {fn : List FD} {ex : PySem.W.Frag → List Bool} {K : PySem.W.Frag} (c : SaysM fn ex K) (i : Nat) {b : Bool} (h : (ex K)[i]? = some b := by rfl) : b = true := List.all_eq_true.mp c.ex b (List.mem_of_getElem? h)
theorem SaysM.f {fn : List FD} {ex : PySem.W.Frag → List Bool} {K : PySem.W.Frag} (c : SaysM fn ex K) (i : Nat) {d : FD} (h : fn[i]? = some d := by rfl) : fnV K (d.at_ K) = d.val := by
  have e2 : (fn.map fun d => fnV K (d.at_ K))[i]? = (fn.map FD.val)[i]? := by rw [c.fn]
  rw [List.getElem?_map, List.getElem?_map, h] at e2
  exact Option.some.inj e2
/-! ### the end -/
section
variable [TabsC]
theorem walkDE {l : PySem.W.OpenLaw} {k : Nat} {q : Program} {loose : List Str} {XP : (Str → Option Value) → Heap → Prop} {YP : World → Heap → Prop} {d : DefRec} {m : FM} (hT : TabsC.T = []) (hI : importsNone q = true) (hn : l.most = some 63) (hdf : d.params.defaults = []) (hr : Room k callerA) (hm : LawTrue m)
    (F : ∀ (w : World) (mg : Str → Option Value) (fa : Addr) (h : Heap), YP w h → h.Ns mainGlobals mg → mg d.name = some (.ref fa) → ∃ K : PySem.W.Frag, K.In h ∧
      ∀ base : Heap, K.In base → base.Ns mainGlobals mg → FnD l.prog w K mg base k fa m) :
    PySem.W.WalkO q loose XP YP l.row.toRowW d [] (fun f vs => PySem.call f vs) := by
  refine Att.attach_call hn hdf fun w s0 s1 mg mb fa o pm cd doc a vs ns G Y ho hd hcd hmg hobj hints hlen hg => ?_
  obtain ⟨mm, hmm, _⟩ := (G.T.seer hI).mods
  obtain ⟨K, KX, hF⟩ := F w mg fa _ Y G.T.g hmg
  exact law_callD KX G.T.g G.T.b G.T.builtins G.T.nolimit hg hT ⟨mm, hmm⟩ hobj hints hr hF hm hlen
end
end DL
set_option Elab.async false
set_option linter.all false
set_option maxRecDepth 100000
set_option maxHeartbeats 4000000
/-! DL56: counts put together; lots that are easier: plain facts. -/
namespace DL
open PySem PySem.Spec PyProof.Rows L2
variable [TabsC]
/-- only what is there -/
def posT (L : Tab) : Tab := (sortT L).filter fun p => decide (p.2 > 0)
/-- a count more -/
def incT (L : Tab) (z n : Int) : Tab := if z ∈ keysT L then L.map (fun p => if p.1 = z then (p.1, p.2 + n) else p) else L ++ [(z, n)]
theorem inc_keys_map (L : Tab) (z n : Int) : keysT (L.map fun p => if p.1 = z then (p.1, p.2 + n) else p) = keysT L := by
  unfold keysT
  rw [List.map_map]
  exact List.map_congr_left fun p _ => by show (if p.1 = z then (p.1, p.2 + n) else p).1 = p.1; split <;> rfl
theorem inc_put {L : Tab} (hn : (keysT L).Nodup) {z n : Int} : putD (tabD L) (.inl z) (.int (cntT L z + n)) = tabD (incT L z n) := by
  unfold incT
  split
  · rename_i hz
    unfold putD
    obtain ⟨p, hp, rfl⟩ := List.mem_map.mp hz
    have any : ((tabD L).any fun kv => decide (kv.1 = Sum.inl p.1)) = true := List.any_eq_true.mpr ⟨(.inl p.1, .int p.2), List.mem_map.mpr ⟨p, hp, rfl⟩, decide_eq_true rfl⟩
    rw [if_pos any]
    unfold tabD
    rw [List.map_map, List.map_map]
    refine List.map_congr_left fun q hq => ?_
    show (if (Sum.inl q.1 : Key) = .inl p.1 then _ else _) = _
    by_cases e : q.1 = p.1
    · rw [if_pos (congrArg Sum.inl e)]
      show _ = (Sum.inl (if q.1 = p.1 then (q.1, q.2 + n) else q).1, D.int (if q.1 = p.1 then (q.1, q.2 + n) else q).2)
      rw [if_pos e, ← e, cntT_mem hn hq]
    · rw [if_neg fun h => e (Sum.inl.inj h)]
      show _ = (Sum.inl (if q.1 = p.1 then (q.1, q.2 + n) else q).1, D.int (if q.1 = p.1 then (q.1, q.2 + n) else q).2)
      rw [if_neg e]
  · rename_i hz
    have c0 : cntT L z = 0 := by
      unfold cntT
      cases e : valT L z with
      | none => rfl
      | some v => exact absurd (List.mem_map.mpr ⟨_, valT_some e, rfl⟩) hz
    rw [c0, Int.zero_add]
    exact putD_new hz
theorem inc_nodup {L : Tab} {z n : Int} (hn : (keysT L).Nodup) : (keysT (incT L z n)).Nodup := by
  unfold incT
  split
  · rw [inc_keys_map]; exact hn
  · rename_i h
    rw [keys_app]
    exact List.nodup_append.mpr ⟨hn, by simp, fun a ha b hb => by rw [List.mem_singleton.mp hb]; exact fun q => h (by rw [← show a = z from q]; exact ha)⟩
theorem inc_keys {L : Tab} {z n k : Int} : k ∈ keysT (incT L z n) ↔ k ∈ keysT L ∨ k = z := by
  unfold incT
  split
  · rename_i h
    rw [inc_keys_map]
    exact ⟨.inl, fun q => q.elim id fun e => e ▸ h⟩
  · rw [keys_app, List.mem_append, List.mem_singleton]
/-! ### a lot as a store -/
/-! ### empty rows -/
end DL
set_option Elab.async false
set_option linter.all false
set_option maxRecDepth 100000
set_option maxHeartbeats 4000000
/-! DL57: zip of three tuples; max and min of ints with a default. -/
namespace DL
open PySem PySem.Spec PyProof.Rows L2
variable [TabsC]
section
variable {X : Cx} {W : WX} {e e2 e3 : Expr} {ba bb : Bool} {la : LM} {mb : TM} {p pos : Pos}
def zip3D : List D → List D → List D → List D
  | x :: xs, y :: ys, z :: zs => .tup [x, y, z] :: zip3D xs ys zs
  | _, _, _ => []
def mZip3 (la : LM) : LM := fun δ P E => la δ (fun ds => ∃ xs ys zs, ds = [.tup xs, .tup ys, .tup zs] ∧ P (zip3D xs ys zs)) E
/-! ### max(ints, default=d), min(ints, default=d) -/
def bestI (mx : Bool) (ns : List Int) (m : Int) : Prop := m ∈ ns ∧ ∀ y, y ∈ ns → if mx = true then y ≤ m else m ≤ y
def mBestD (mx : Bool) (la : LM) (md : TM) : TM := fun δ Q E => la δ (fun ds => md δ (fun d => ∃ ns : List Int, ds = [.list (ns.map .int)] ∧ (ns = [] → Q d) ∧ ∀ m, bestI mx ns m → Q (.int m)) E) E
end
end DL
set_option Elab.async false
set_option linter.all false
set_option maxRecDepth 100000
set_option maxHeartbeats 4000000
/-! DL58: equality of rows of ints; chains; how many rooms stay when runs are merged. -/
namespace DL
open PySem PySem.Spec PyProof.Rows L2
variable [TabsC]
/-! chains -/
def chN (ns : List Int) : Prop := ascL ns = true ∧ gapL ns = none ∧ 1 ≤ ns.length ∧ ns.length ≤ 12 ∧ ∀ i, i ∈ ns → 1 ≤ i ∧ i < 10 ^ 50
theorem setL_self {ns : List Int} (h : ascL ns = true) : setL ns = ns :=
  (setL_perm' ((pair_asc h).imp fun h => Int.ne_of_lt h)).eq_of_pairwise (le := (· < ·)) (fun a b _ _ h1 h2 => absurd h2 (by omega)) setL_pair (pair_asc h)
/-! how many rooms -/
end DL
set_option Elab.async false
set_option linter.all false
set_option maxRecDepth 100000
set_option maxHeartbeats 4000000
/-! DL59: plain facts that contracts share. -/
namespace DL
open PySem PySem.Spec PyProof.Rows L2
variable [TabsC]
local macro_rules | `(tactic| walk_at "dl") => `(tactic| simp only [DL.sSeq, DL.sSet, DL.sSetM, DL.sNext, DL.sFalse, DL.sBreak, DL.sCont, DL.sExpr, DL.sRet, DL.sRetN, DL.sIf, DL.sAsg, DL.sPar, DL.sParM, DL.sPar3, DL.sApp, DL.sExt, DL.sFor, DL.sFrz, DL.frzD, DL.mC, DL.mVar, DL.mMut, DL.mBin, DL.mCmp, DL.mCmpT, DL.mChain, DL.mChainT, DL.mTest, DL.mVal, DL.mNotT, DL.mAndT, DL.mOrT, DL.mAnd, DL.mOr, DL.mIf, DL.mNil, DL.mCons, DL.mTup, DL.mLst, DL.mB, DL.mCall, DL.mCall0, DL.mThunk, DL.mThk, DL.e_dm0, DL.e_dmv, DL.e_dmu, DL.e_dmm, DL.e_dms, DL.e_dmc, DL.mRepr, DL.sAug, DL.e_fI2, DL.fAugAdd, DL.fAugSub, DL.sRaise, DL.sRaise0, DL.sTry, DL.hsM, DL.hPlain, DL.hAs, DL.mEF, DL.mSFld, DL.sFld, DL.putFD, DL.mMeth0, DL.mProp, DL.mMake, DL.mMakeS, DL.mIsiC, DL.mKeys, DL.mVals, DL.mItems, DL.mDGet2, DL.mFunD, DL.mFunS, DL.mFunM, DL.mFunMS, DL.endK, DL.endM, DV.s.injEq, DL.fIs, DL.fIsNot, DL.e_nn, DL.e_nt, DL.e_nl, DL.e_ni, DL.e_fIx_1, DL.e_fIx_2, DL.e_fIx_3, DL.e_fIx_4, DL.e_fAdd_1, DL.e_fAdd_2, DL.e_fAdd_3, DL.e_fAdd_4, DL.e_fSub_1, DL.e_fEq_i, DL.e_fNe_i, DL.e_fEq_b, DL.e_fNe_b, DL.e_fI_1, DL.fMul, DL.fDiv, DL.fMod, DL.fPow, DL.e_fCmp_1, DL.e_fCmp_2, DL.fLt, DL.fLe, DL.fGt, DL.fGe, DL.e_fIsB_1, DL.e_fIsNotB_1, DL.e_fLen_1, DL.e_fLen_2, DL.e_fLen_3, DL.e_fLen_4, DL.eAbs, DL.eMax2, DL.eMin2, DL.e_fInt_1, DL.e_fInt_2, DL.fStr, DL.e_fTuple_1, DL.e_fTuple_2, DL.e_fList_1, DL.e_fList_2, DL.mDice, DL.mNeg, DL.mSlice, DL.mNoPart, DL.mPart, DL.e_fSlice_1, DL.e_fSlice_2, DL.mSeq, DL.mRange1, DL.mRange2, DL.mRange3, DL.mSigns, DL.mJoin, DL.mRev, DL.mStar, DL.mDGet, DL.mFld, DL.mMeth, DL.sPut, DL.sPutL, DL.sPutT, DL.mCallFn, DL.mCallK, DL.mRepT, DL.mCompK, DL.mListVals, DL.mListItems, DL.mCompD, DL.mRep, DL.sParMM, DL.sAppPop, DL.mSumVals, DL.mEqO, DL.mInO, DL.mLenO, DL.mGetO, DL.mFmt, DL.mJs, DL.mJoined, DL.mStrO, DL.mBinO, DL.e_inD, DL.e_lenD, DL.e_listD, DL.e_tupD, DL.e_eqD, DL.e_neD, DL.e_keyI, DL.e_keyS, DL.mFunMD, DL.mMaxLenD, DL.mTupRg1, DL.mTupRg2, DL.mChain3, DL.fSortSet, DL.mZip, DL.mZipM, DL.mEnumT, DL.mZip3, DL.mBestD, DL.gN, DL.gT, DL.gL, DL.gsNil, DL.gsCons, DL.mYes, DL.mComp, DL.wipeD, DL.mDisp, DL.mPairs, DL.mpNil, DL.mpCons, DL.startD, DL.mFun, List.getElem?_cons_zero, List.getElem?_cons_succ, List.set_cons_zero, List.set_cons_succ, Option.some.injEq, DV.v.injEq, DV.m.injEq, exists_eq_left', exists_eq_left, List.cons.injEq, and_true, true_and, List.map_cons, List.map_nil, List.length_cons, List.length_nil, List.cons_append, List.nil_append, List.replicate_succ, List.replicate_zero, Nat.reduceSub, Nat.reduceAdd, Nat.zero_add, Nat.zero_le, sizeLine_eq, Nat.reduceLeDiff, Int.reduceLE, Int.reduceLT, DL.p61, Int.reduceNeg, Int.zero_add, D.int.injEq, D.bool.injEq, D.str.injEq, D.list.injEq, D.tup.injEq, D.dict.injEq, DL.e_lk, D.obj.injEq, List.drop_zero, List.take_zero, List.take_succ_cons, List.take_nil, List.drop_succ_cons, List.drop_nil, D.script.injEq, Int.reduceToNat, exists_eq_right, exists_eq_right', List.append_nil, DL.ex2, DL.ex3, DL.atI_0, DL.atI_1, DL.cut_01, reduceCtorEq, false_and, and_false, exists_false, false_or, or_false, Bool.not_true, Bool.not_false, Bool.false_eq_true, if_true, if_false, ite_true, ite_false, decide_true, decide_false, reduceIte])
theorem pow_ok1 : CPowD 10 15 := ⟨by decide, by decide⟩
theorem pow_ok2 : CPowD 10 60 := ⟨by decide, by decide⟩
theorem mul_big : IntMulOk (10 ^ 60) (10 ^ 60) := (wide_mul (a := 200) (b := 200) (by decide) (by decide) (by decide) (by decide) (by decide)).ok
def intD : D → Bool
  | .int i => decide (-(10 ^ 200) < i) && decide (i < 10 ^ 200)
  | _ => false
theorem lim_lit : (100000000000000000000000000000000000000000000000000000000000000000000000000000000000000000000000000000000000000000000000000000000000000000000000000000000000000000000000000000000000000000000000000000000 : Int) = 10 ^ 200 := by decide +kernel
def cntD : D → Bool
  | .int i => decide (0 ≤ i) && decide (i < 10 ^ 200)
  | _ => false
theorem cnt_eq (i : Int) : cntD (.int i) = (intD (.int i) && decide (i ≥ 0)) := by
  simp only [cntD, intD, ge_iff_le]
  by_cases h : 0 ≤ i
  · rw [decide_eq_true h, decide_eq_true (show -(10 ^ 200) < i by omega)]; simp
  · rw [decide_eq_false h, Bool.false_and, Bool.and_false]
def sizD : D → Bool
  | .int i => decide (1 ≤ i) && decide (i < 10 ^ 200)
  | _ => false
theorem siz_eq (i : Int) : sizD (.int i) = (intD (.int i) && decide (i ≥ 1)) := by
  simp only [sizD, intD, ge_iff_le]
  by_cases h : 1 ≤ i
  · rw [decide_eq_true h, decide_eq_true (show -(10 ^ 200) < i by omega)]; simp
  · rw [decide_eq_false h, Bool.false_and, Bool.and_false]
theorem div_ok {i j : Int} (h : 1 ≤ j) (h' : j < 10 ^ 200) : CDivW i j := by
  have := log2_lim (i := j) (by
    have b0 : (0 : Int) < 10 ^ 240 := by decide +kernel
    generalize (10 : Int) ^ 240 = A at *
    omega) (by
    have b : (10 : Int) ^ 200 < 10 ^ 240 := by decide +kernel
    generalize (10 : Int) ^ 240 = A at *
    generalize (10 : Int) ^ 200 = B at *
    omega)
  exact ⟨by omega, by omega⟩
theorem pow_nat4 (i : Nat) : (4 : Int) ^ i = ((4 ^ i : Nat) : Int) := by rw [Int.natCast_pow]; rfl
theorem siz_ok {i : Int} (h : 1 ≤ i ∧ i < 10 ^ 200) : sizD (.int i) = true := by
  simp only [sizD, Bool.and_eq_true, decide_eq_true_eq]
  exact h
theorem add_len {L : Tab} {z n : Int} : (incT L z n).length ≤ L.length + 1 := by
  unfold incT
  split
  · rw [List.length_map]; omega
  · rw [List.length_append, List.length_singleton]; omega
theorem cnt_int {d : D} (h : cntD d = true) : ∃ i, d = .int i ∧ 0 ≤ i ∧ i < 10 ^ 200 := by
  cases d with
  | int i =>
    simp only [cntD, Bool.and_eq_true, decide_eq_true_eq] at h
    exact ⟨i, rfl, h⟩
  | _ => cases h
def profL (ns : List Int) (R : Runs) : List Int := ns.map fun s => spaceT R s
theorem iOf_int (k : Int) : iOf (.int k) = k := rfl
end DL
set_option Elab.async false
set_option linter.all false
set_option maxRecDepth 100000
set_option maxHeartbeats 4000000
/-! DL60: equality of dicts from ints to ints. -/
namespace DL
open PySem PySem.Spec PyProof.Rows L2
end DL
set_option Elab.async false
set_option linter.all false
set_option maxRecDepth 100000
set_option maxHeartbeats 4000000
/-! DL61: which store takes all of another one: plain facts. -/
namespace DL
open PySem PySem.Spec PyProof.Rows L2
end DL
set_option Elab.async false
set_option linter.all false
set_option maxRecDepth 100000
set_option maxHeartbeats 4000000
/-! DL62: a, b = e, [..]; a cell of one's own that is lent while an expression is reckoned. -/
namespace DL
open PySem PySem.Spec PyProof.Rows L2
variable [TabsC]
section
variable {X : Cx} {W : WX} {a b e : Expr} {ba : Bool} {ma mb : TM} {x y : Str} {pos : Pos}
def sParVM (i j : Nat) (ma mb : TM) : SM := fun δ k => ma δ (fun d => mb δ (fun e => k.nx ((δ.set i (.v d)).set j (.m e))) (k.er δ)) (k.er δ)
/-! ### lending -/
def flatD : D → Bool
  | .none => true
  | .bool _ => true
  | .int _ => true
  | .str _ => true
  | _ => false
theorem Rep.flat {K : PySem.W.Frag} {H H' : Hp} {v : V} {d : D} (r : Rep K H v d) (h : flatD d = true) : Rep K H' v d := by
  cases r with
  | non => exact .non
  | bool b => exact .bool b
  | int i => exact .int i
  | str x => exact .str x
  | _ => cases h
/-- slot i, a cell of ours, is a plain value while an expression is reckoned; what comes has no parts -/
def mLend (i : Nat) (m : TM) : TM := fun δ Q _ => ∃ d, δ[i]? = some (.m d) ∧ m (δ.set i (.v d)) (fun r => flatD r = true ∧ Q r) NoE
end
end DL
set_option Elab.async false
set_option linter.all false
set_option maxRecDepth 100000
set_option maxHeartbeats 4000000
/-! DL63: isinstance(x, T), T a built-in kind, where x may be an own instance. -/
namespace DL
open PySem PySem.Spec PyProof.Rows L2
variable [TabsC]
def kitBack (K : PySem.W.Frag) (C : Addr) : Bool := ownTys.all fun t => decide (PySem.W.kitOne K (.ref C) (.type t) = some false)
def BackOwn (K : PySem.W.Frag) (others : List Str) : Prop := ∀ (m : Str) (Cm : Addr), m ∈ others → PySem.W.nsIn K mainGlobals m = some (some (.ref Cm)) → kitBack K Cm = true
theorem BackOwn.of {K : PySem.W.Frag} {others : List Str} (tbl : List (Str × Addr)) (h1 : others = tbl.map (·.1)) (hns : ∀ p ∈ tbl, PySem.W.nsIn K mainGlobals p.1 = some (some (.ref p.2)))
    (h2 : (tbl.all fun p => kitBack K p.2) = true) : BackOwn K others := by
  intro m Cm hm em
  rw [h1] at hm
  obtain ⟨p, hp, rfl⟩ := List.mem_map.mp hm
  have ep := hns p hp
  rw [ep] at em
  cases em
  exact List.all_eq_true.mp h2 p hp
def fIsiT (others : List Str) (n : String) (d : D) (Q : D → Prop) : Prop := (∃ t r, d.tyn = some t ∧ kitB t n = some r ∧ Q (.bool r)) ∨ ∃ m fs, d = .obj m fs ∧ m ∈ others ∧ Q (.bool false)
def mIsiT (others : List Str) (n : String) (ma : TM) : TM := fun δ Q E => ma δ (fun d => fIsiT others n d Q) E
section
variable {X : Cx} {W : WX} {a : Expr} {ba : Bool} {ma : TM} {n : String} {pos p p2 : Pos} {others : List Str} {x : Str}
theorem de_isiT (ho : KitOwn X.K others) (hb : BackOwn X.K others) (hin : n ∈ ownTys) (hg : Gl X "isinstance") (hm : X.mg "isinstance" = none) (ha : DE X W a ba ma)
    (hgx : Gl X x) (hmx : X.mg x = none) (hvx : bootBuiltins x = some (.type n)) (hn : x ≠ "__name__" := by decide) (hd : (x == ("__debug__" : Str)) = false := by decide)
    (hs : starEach [a, .Name x p2] X.env = (false, eval a X.env) :: starEach [.Name x p2] X.env := by rfl) (hs2 : starEach [.Name x p2] X.env = (false, eval (.Name x p2) X.env) :: starEach [] X.env := by rfl) (hpl : (backTo pos (starEach [.Name x p2] X.env)).any (·.1) = false := by rfl) :
    DE X W (.Call (.Name "isinstance" p) [a, .Name x p2] [] pos) false (mIsiT others n ma) :=
  PE.imp (pe_callB call_isi hg hm (by decide +kernel) (pa_cons ha (pa_cons (pe_bltn hgx hmx hvx (show RelV (.ty n) (.type n) from rfl) hn hd) pa_nil hs2) hs) (by decide) (by decide) hs hpl) fun σ H Q ⟨F, own, δ, P, EK, A, m, q⟩ => ⟨F, own, δ, _, EK, A, m, fun d v H1 m1 s1 r1 => by
    rcases m1 with ⟨t, r, ht, hk, m1⟩ | ⟨m', fs, rfl, hm', m1⟩
    · exact ⟨v, .ty n, .type t, .type n, r, rfl, .ty n, tyx_rv r1 ht, kit_ty hk, q _ _ H1 m1 s1 (.cl (.bool _))⟩
    · obtain ⟨C', a, dx, vs, hC', rfl, h1, h2⟩ := r1.obj
      have T := ho.ins m' C' hm' hC'
      refine ⟨.ref a, .ty n, .ref C', .type n, false, rfl, .ty n, .base (.ins h1 T.cl T.fc T.sg T.tk T.mo), ?_, q _ _ H1 m1 s1 (.cl (.bool _))⟩
      exact of_decide_eq_true (List.all_eq_true.mp (hb m' C' hm' hC') n hin)⟩
end
/-! what is asked of plain values and of own instances -/
theorem isx_of {d : D} {n : String} {others : List Str} {r : Bool} {Q : D → Prop} (k : ∀ t, d.tyn = some t → kitB t n = some r) (ko : ∀ m fs, d = .obj m fs → r = false) (h : okB others d) : fIsiT others n d Q = Q (.bool r) := by
  refine propext ⟨fun z => ?_, fun z => ?_⟩
  · rcases z with ⟨t, r', ht, hk, q⟩ | ⟨m, fs, e, _, q⟩
    · rw [k t ht] at hk; cases hk; exact q
    · rw [ko m fs e]; exact q
  · rcases h with h | ⟨m, fs, e, hm⟩
    · obtain ⟨t, ht⟩ := Option.isSome_iff_exists.mp h
      exact .inl ⟨t, r, ht, k t ht, z⟩
    · rw [ko m fs e] at z
      exact .inr ⟨m, fs, e, hm, z⟩
section
variable {d : D} {Q : D → Prop} {others : List Str}
theorem isx_int (h : okB others d) : fIsiT others "int" d Q = Q (.bool d.isI) := isx_of (fun _ => kit_int) (fun m fs e => by rw [e]; rfl) h
theorem isx_bool (h : okB others d) : fIsiT others "bool" d Q = Q (.bool d.isB) := isx_of (fun _ => kit_bool) (fun m fs e => by rw [e]; rfl) h
theorem isx_tup (h : okB others d) : fIsiT others "tuple" d Q = Q (.bool d.isT) := isx_of (fun _ => kit_tup) (fun m fs e => by rw [e]; rfl) h
end
end DL
set_option Elab.async false
set_option linter.all false
set_option maxRecDepth 100000
set_option maxHeartbeats 4000000
/-! DL64: profiles and plain stores: plain facts. -/
namespace DL
open PySem PySem.Spec PyProof.Rows L2
variable [TabsC]
def roomsF : List Int → List Int → List Int
  | lo :: hi :: cs, a :: b :: us => (a - b * (hi / lo)) :: roomsF (hi :: cs) (b :: us)
  | _, [a] => [a - 0]
  | _, _ => []
def plainR (ns us : List Int) : Runs := (ns.zip (roomsF ns us)).filter fun p => decide (p.2 > 0)
/-- the units of a plain store, from the greatest size on -/
theorem space_filter (L : Runs) (s : Int) (h : ∀ p, p ∈ L → 0 ≤ p.2) : spaceT (L.filter fun p => decide (p.2 > 0)) s = spaceT L s := by
  induction L with
  | nil => rfl
  | cons p r ih =>
    have hp := h p List.mem_cons_self
    have ih := ih fun q hq => h q (List.mem_cons_of_mem _ hq)
    rw [List.filter_cons]
    by_cases c : p.2 > 0
    · rw [if_pos (decide_eq_true c)]
      unfold spaceT at ih ⊢
      rw [List.map_cons, List.map_cons, List.sum_cons, List.sum_cons, ih]
    · rw [if_neg (by rw [decide_eq_true_eq]; exact c), ih]
      have : p.2 = 0 := by omega
      unfold spaceT
      rw [List.map_cons, List.sum_cons, this, Int.zero_mul, Int.zero_add]
theorem space_cons (p : Int × Int) (r : Runs) (s : Int) : spaceT (p :: r) s = p.2 * (p.1 / s) + spaceT r s := by
  unfold spaceT
  rw [List.map_cons, List.sum_cons]
theorem space_dvd {r : Runs} {lo hi : Int} (h1 : 1 ≤ lo) (h2 : lo ∣ hi) (h : ∀ p, p ∈ r → hi ∣ p.1) (hh : 1 ≤ hi) : spaceT r lo = spaceT r hi * (hi / lo) := by
  induction r with
  | nil => unfold spaceT; simp
  | cons p r ih =>
    rw [space_cons, space_cons, ih fun q hq => h q (List.mem_cons_of_mem _ hq), Int.add_mul]
    congr 1
    obtain ⟨c, e⟩ := h p List.mem_cons_self
    obtain ⟨d, e2⟩ := h2
    subst e2
    rw [e, Int.mul_ediv_cancel_left c (by omega), Int.mul_ediv_cancel_left d (by omega), Int.mul_assoc, Int.mul_ediv_cancel_left _ (by omega), Int.mul_assoc, Int.mul_comm d c]
theorem space_zip : ∀ {ns us : List Int}, ns.Pairwise (· < ·) → ns.Pairwise (· ∣ ·) → (∀ i, i ∈ ns → 1 ≤ i) → ns.length = us.length → ns.map (fun s => spaceT (ns.zip (roomsF ns us)) s) = us
  | [], us, _, _, _, h => by cases us <;> simp_all
  | [lo], us, _, _, hp, h => by
    cases us with
    | nil => simp at h
    | cons a r => cases r with
      | nil =>
        have := hp lo (by simp)
        simp only [List.map_cons, List.map_nil, roomsF, List.zip_cons_cons, List.zip_nil_right, space_cons, Int.sub_zero]
        rw [Int.ediv_self (by omega), Int.mul_one, show spaceT [] lo = 0 from rfl, Int.add_zero]
      | cons b r => simp at h
  | lo :: hi :: cs, us, ha, hd, hp, h => by
    cases us with
    | nil => simp at h
    | cons a r => cases r with
      | nil => simp at h
      | cons b r =>
        have ih := space_zip (ns := hi :: cs) (us := b :: r) (List.pairwise_cons.mp ha).2 (List.pairwise_cons.mp hd).2 (fun i hi => hp i (List.mem_cons_of_mem _ hi)) (by simpa using h)
        have l1 := hp lo List.mem_cons_self
        have l2 := hp hi (by simp)
        have e : (lo :: hi :: cs).zip (roomsF (lo :: hi :: cs) (a :: b :: r)) = (lo, a - b * (hi / lo)) :: (hi :: cs).zip (roomsF (hi :: cs) (b :: r)) := by rw [roomsF, List.zip_cons_cons]
        have hkeys : ∀ p, p ∈ (hi :: cs).zip (roomsF (hi :: cs) (b :: r)) → hi ∣ p.1 := fun p hp' => by
          have hm : p.1 ∈ hi :: cs := (List.of_mem_zip (a := p.1) (b := p.2) hp').1
          rcases List.mem_cons.mp hm with z | z
          · rw [z]; exact Int.dvd_refl _
          · exact (List.pairwise_cons.mp (List.pairwise_cons.mp hd).2).1 _ z
        have hb : spaceT ((hi :: cs).zip (roomsF (hi :: cs) (b :: r))) hi = b := by
          have := congrArg (fun l => l.headD 0) ih
          simpa using this
        rw [e, List.map_cons]
        congr 1
        · rw [space_cons, Int.ediv_self (by omega), Int.mul_one, space_dvd l1 ((List.pairwise_cons.mp hd).1 hi (by simp)) hkeys l2, hb]
          omega
        · rw [← ih]
          refine List.map_congr_left fun s hs => ?_
          have lt := (List.pairwise_cons.mp ha).1 s hs
          rw [space_cons, Int.ediv_eq_zero_of_lt (by omega) lt, Int.mul_zero, Int.zero_add, ih]
theorem prof_plain {ns us : List Int} (ha : ascL ns = true) (hg : gapL ns = none) (hp : ∀ i, i ∈ ns → 1 ≤ i) (hl : ns.length = us.length) (h0 : ∀ r, r ∈ roomsF ns us → 0 ≤ r) : profL ns (plainR ns us) = us := by
  have := space_zip (pair_asc ha) (pair_gap hg) hp hl
  unfold profL plainR
  rw [← this]
  refine List.map_congr_left fun s hs => ?_
  rw [this, space_filter _ _ fun p hp => h0 _ (List.of_mem_zip (a := p.1) (b := p.2) hp).2]
end DL
set_option Elab.async false
set_option linter.all false
set_option maxRecDepth 100000
set_option maxHeartbeats 4000000
/-! DL65: equality of rows of pairs. -/
namespace DL
open PySem PySem.Spec PyProof.Rows L2
variable [TabsC]
theorem eqD_pair (p q : Int × Int) : eqD (pairD p) (pairD q) = decide (p = q) := by
  show eqD (.tup [.int p.1, .int p.2]) (.tup [.int q.1, .int q.2]) = _
  rw [eqD_tup]
  show (eqD (.int p.1) (.int q.1) && (eqD (.int p.2) (.int q.2) && true)) = _
  rw [eqD_int, eqD_int, Bool.and_true, Bool.eq_iff_iff, Bool.and_eq_true, beq_iff_eq, beq_iff_eq, decide_eq_true_eq]
  exact ⟨fun h => Prod.ext h.1 h.2, fun h => by rw [h]; exact ⟨rfl, rfl⟩⟩
theorem eqAll_pairs : ∀ R S : Runs, eqAll (R.map pairD) (S.map pairD) = decide (R = S)
  | [], [] => rfl
  | [], _ :: _ => rfl
  | _ :: _, [] => rfl
  | p :: R, q :: S => by
    show (eqD (pairD p) (pairD q) && eqAll (R.map pairD) (S.map pairD)) = _
    rw [eqD_pair, eqAll_pairs R S, Bool.eq_iff_iff, Bool.and_eq_true, decide_eq_true_eq, decide_eq_true_eq, decide_eq_true_eq, List.cons.injEq]
theorem fine_runs_tup (R : Runs) : (D.tup (R.map pairD)).fine = true := (fineN_tup (n := 1) fun d hd => by
  obtain ⟨p, _, rfl⟩ := List.mem_map.mp hd
  exact fineN_tup (n := 0) (ds := [.int p.1, .int p.2]) fun d hd => by
    simp only [List.mem_cons, List.not_mem_nil, or_false] at hd
    rcases hd with rfl | rfl <;> exact fineN_int).fine (by decide)
theorem eq_runs (R S : Runs) {Q : Bool → Prop} (q : Q (decide (R = S))) : fEq (.tup (R.map pairD)) (.tup (S.map pairD)) Q :=
  ⟨fine_runs_tup R, fine_runs_tup S, by rw [eqD_tup, eqAll_pairs]; exact q⟩
end DL
set_option Elab.async false
set_option linter.all false
set_option maxRecDepth 100000
set_option maxHeartbeats 4000000
/-! DL66: a tuple times one. -/
namespace DL
open PySem PySem.Spec PyProof.Rows L2
variable [TabsC]
section
variable {X : Cx} {W : WX} {a b : Expr} {ba bb : Bool} {ma mb : TM} {pos : Pos}
def mRepU (ma mb : TM) : TM := fun δ Q E => ma δ (fun x => mb δ (fun y => ∃ ds k, x = .tup ds ∧ y = .int k ∧ ds ≠ [] ∧ 1 ≤ k ∧ k ≤ 1000 ∧ ds.length ≤ 1000 ∧ Q (.tup (List.replicate k.toNat ds).flatten)) E) E
end
end DL
set_option Elab.async false
set_option linter.all false
set_option maxRecDepth 100000
set_option maxHeartbeats 4000000
/-! DL67: sorted of pairs of ints, of a list or a tuple. -/
namespace DL
open PySem PySem.Spec PyProof.Rows L2 SrtO
end DL
namespace DL
open PySem PySem.Spec PyProof.Rows L2
variable [TabsC]
def PairA (K : PySem.W.Frag) (H : Hp) (x : V) (m : Int × Int) : Prop := ∃ t, x = V.ref t ∧ SqT K H t [.int m.1, .int m.2]
theorem PairA.inj {X : Cx} {pins : List (Addr × Obj)} {σ : L2.St} {H : Hp} {s : Shared} (I : Inv X pins σ H s) {x : V} {m n : Int × Int} (h : PairA X.K H x m) (h' : PairA X.K H x n) : m = n := by
  obtain ⟨t, rfl, ht⟩ := h
  obtain ⟨t', e, ht'⟩ := h'
  cases e
  obtain ⟨i1, r1, ⟨o, ho, hc, k, hd⟩, _⟩ := I.tuple ht
  obtain ⟨i2, r2, ⟨o', ho', hc', k', hd'⟩, _⟩ := I.tuple ht'
  obtain ⟨u1, u2, rfl, ri, rj⟩ := vals2 r1
  obtain ⟨w1, w2, rfl, si, sj⟩ := vals2 r2
  obtain ⟨t1, rfl⟩ := ri
  obtain ⟨t2, rfl⟩ := rj
  obtain ⟨t3, rfl⟩ := si
  obtain ⟨t4, rfl⟩ := sj
  rw [ho] at ho'
  cases ho'
  rw [hd] at hd'
  have e2 : (#[Value.int m.1 t1, Value.int m.2 t2] : Array Value) = #[Value.int n.1 t3, Value.int n.2 t4] := by injection hd'
  simp at e2
  exact Prod.ext e2.1.1 e2.2.1
end DL
set_option Elab.async false
set_option linter.all false
set_option maxRecDepth 100000
set_option maxHeartbeats 4000000
/-! DL68: fewest rooms, least rooms, least caps: the plain law. -/
namespace DL
open PySem PySem.Spec PyProof.Rows L2
/-! ### so many alike rooms -/
/-! ### the greatest rooms -/
/-! how many units the greatest rooms have, without any order -/
/-! ### caps -/
end DL
set_option Elab.async false
set_option linter.all false
set_option maxRecDepth 100000
set_option maxHeartbeats 4000000
/-! DL69: max and min of ints in a list, a tuple or a dict. -/
namespace DL
open PySem PySem.Spec PyProof.Rows L2
end DL
set_option Elab.async false
set_option linter.all false
set_option maxRecDepth 100000
set_option maxHeartbeats 4000000
/-! DL70: bounds and plain facts for the contracts of the fewest. -/
namespace DL
open PySem PySem.Spec PyProof.Rows L2
variable [TabsC]
theorem lim200 {a b : Int} (h1 : 0 ≤ a) (h2 : a < 10 ^ 200) (h3 : 0 ≤ b) (h4 : b < 10 ^ 200) : IntMulOk a b := by
  have h5 : (10 : Int) ^ 200 < 10 ^ 240 := by decide +kernel
  have h0 : (0 : Int) < 10 ^ 240 := by decide +kernel
  have k : (-(10 ^ 240) < a ∧ a < 10 ^ 240) ∧ (-(10 ^ 240) < b ∧ b < 10 ^ 240) := by
    generalize (10 : Int) ^ 240 = A at *
    generalize (10 : Int) ^ 200 = C at *
    omega
  exact mul_lim k.1.1 k.1.2 k.2.1 k.2.2
/-- a chained lot as the package keeps it -/
structure lotC (L : Tab) : Prop where
  b : bndL L
  a : ascL (keysT L) = true
  g : gapL (keysT L) = none
theorem lotC.self {L : Tab} (h : lotC L) : setL (keysT L) = keysT L := setL_self h.a
/-- a walk with what is left of the row -/
theorem forL_ind {g : GM} {mb : SM} {k : KD} (P : List D → List DV → Prop) (h0 : ∀ δ, P [] δ → k.nx δ) (h1 : ∀ (d : D) (ds : List D) (δ : List DV) (N : List DV → Prop), P (d :: ds) δ → (∀ δ', P ds δ' → N δ') → g d δ fun δ' => mb δ' { k with nx := N, ct := N, bk := k.nx }) :
    ∀ {ds : List D} {δ : List DV}, P ds δ → forL g mb ds δ k
  | [], δ, h => h0 δ h
  | d :: ds, δ, h => h1 d ds δ _ h fun δ' h' => forL_ind P h0 h1 h'
end DL
set_option Elab.async false
set_option linter.all false
set_option maxRecDepth 100000
set_option maxHeartbeats 4000000
/-! DL71: lots scaled and multiplied; sizes that bar. -/
namespace DL
open PySem PySem.Spec PyProof.Rows L2
variable [TabsC]
theorem sortT_self {L : Tab} (h : ascL (keysT L) = true) : sortT L = L := by
  have hn : (keysT L).Nodup := by
    have := pair_asc h
    exact List.nodup_iff_pairwise_ne.mpr (this.imp fun h => by omega)
  unfold sortT
  rw [setL_self h]
  unfold keysT
  rw [List.map_map]
  have : L.map ((fun k => (k, cntT L k)) ∘ fun p => p.1) = L.map id := List.map_congr_left fun p hp => by
    show (p.1, cntT L p.1) = p
    rw [cntT_mem hn hp]
  rw [this, List.map_id]
theorem sumT_dvd {L : Tab} {s : Int} (h : ∀ k, k ∈ keysT L → s ≤ k → s ∣ k) : s ∣ sumT L s := by
  induction L with
  | nil => exact Int.dvd_zero s
  | cons p r ih =>
    rw [sumT_cons]
    refine Int.dvd_add ?_ (ih fun k hk => h k (List.mem_cons_of_mem _ hk))
    split
    · rename_i c
      exact Int.dvd_mul_of_dvd_left (h p.1 List.mem_cons_self c)
    · exact Int.dvd_zero s
theorem lotC.dvd {L : Tab} (h : lotC L) {s : Int} (hs : s ∈ keysT L) : s ∣ sumT L s := sumT_dvd fun k hk hl => chain_dvd (pair_asc h.a) (pair_gap h.g) hs hk hl
end DL
set_option Elab.async false
set_option linter.all false
set_option maxRecDepth 100000
set_option maxHeartbeats 4000000
/-! DL72: least numbers seen by the sizes that bar. -/
namespace DL
open PySem PySem.Spec PyProof.Rows L2
/-! stores -/
end DL
set_option Elab.async false
set_option linter.all false
set_option maxRecDepth 100000
set_option maxHeartbeats 4000000
/-! DL73: one more thing; the last rooms of an ascending store. -/
namespace DL
open PySem PySem.Spec PyProof.Rows L2
variable [TabsC]
/-! ### one more thing -/
theorem asc_nodup {ks : List Int} (h : ascL ks = true) : ks.Nodup := List.nodup_iff_pairwise_ne.mpr ((pair_asc h).imp fun h => by omega)
end DL
set_option Elab.async false
set_option linter.all false
set_option maxRecDepth 100000
set_option maxHeartbeats 4000000
/-! DL74: the last rooms of an ascending store are its greatest ones. -/
namespace DL
open PySem PySem.Spec PyProof.Rows L2
end DL
set_option Elab.async false
set_option linter.all false
set_option maxRecDepth 100000
set_option maxHeartbeats 4000000
/-! DL75: parts that fit: the smallest first give the most things, the greatest first the greatest total. -/
namespace DL
open PySem PySem.Spec PyProof.Rows L2
/-! ### sums over the sizes of a chain -/
end DL
set_option Elab.async false
set_option linter.all false
set_option maxRecDepth 100000
set_option maxHeartbeats 4000000
/-! DL76: parts of a lot as tables. -/
namespace DL
open PySem PySem.Spec PyProof.Rows L2
variable [TabsC]
/-- a table over the sizes of a lot -/
structure tabIn (C : Tab) (T : Tab) : Prop where
  n : (keysT T).Nodup
  k : ∀ s, s ∈ keysT T → s ∈ keysT C
  v : ∀ p, p ∈ T → 0 ≤ p.2 ∧ p.2 ≤ cntT C p.1
theorem posT_mem {T : Tab} (hn : (keysT T).Nodup) {p : Int × Int} : p ∈ posT T ↔ p ∈ T ∧ 1 ≤ p.2 := by
  unfold posT
  rw [List.mem_filter, sortT_mem hn, decide_eq_true_eq]
  exact ⟨fun h => ⟨h.1, by have := h.2; omega⟩, fun h => ⟨h.1, by have := h.2; omega⟩⟩
theorem posT_asc (T : Tab) : ascL (keysT (posT T)) = true := by
  refine asc_pair (List.pairwise_map.mpr ?_)
  exact (sortT_asc T).filter _
theorem tabIn.len {C T : Tab} (h : tabIn C T) (hC : lotC C) : T.length ≤ 12 := by
  have h1 : (setL (keysT T)).length ≤ (keysT C).length := (asc_sub setL_pair (pair_asc hC.a) fun k z => h.k k (setL_mem.mp z)).length_le
  rw [← sortT_keys, keys_len, keys_len, (sortT_perm h.n).length_eq] at h1
  exact Nat.le_trans h1 hC.b.2.1
end DL
set_option Elab.async false
set_option linter.all false
set_option maxRecDepth 100000
set_option maxHeartbeats 4000000
/-! DL77: the end over a head that is run once, for laws with lambdas. -/
namespace DL
open PySem PySem.Spec PyProof.Rows L2
end DL
set_option Elab.async false
set_option linter.all false
set_option maxRecDepth 100000
set_option maxHeartbeats 4000000
/-! DL78: == and `in` over nested data with dicts among it. -/
namespace DL
open PySem PySem.Spec PyProof.Rows L2
variable [TabsC]
/-- a value as it is read, a dict of one's own too -/
def RD (K : PySem.W.Frag) (H : Hp) (v : V) (d : D) : Prop := Rep K H v d ∨ ∃ a xs ds, v = .ref a ∧ d = .dict ds ∧ Rd H a (.dK xs) ∧ RepKs K H xs ds
theorem RD.rep {K : PySem.W.Frag} {H : Hp} {v : V} {d : D} (r : RD K H v d) (n : isDic d = false) : Rep K H v d := by
  rcases r with r | ⟨a, xs, ds, rfl, rfl, _⟩
  · exact r
  · cases n
theorem RD.dict {K : PySem.W.Frag} {H : Hp} {v : V} {ds : List (Key × D)} (r : RD K H v (.dict ds)) : ∃ a xs, v = .ref a ∧ Rd H a (.dK xs) ∧ RepKs K H xs ds := by
  rcases r with r | ⟨a, xs, ds', rfl, e, h, rr⟩
  · cases r with
    | dict h l rr => exact ⟨_, _, rfl, .inr ⟨_, h⟩, rr⟩
  · cases e
    exact ⟨a, xs, rfl, h, rr⟩
/-! ### in, of a list -/
/-! plain facts: dicts of ints, lists of such -/
end DL
set_option Elab.async false
set_option linter.all false
set_option maxRecDepth 100000
set_option maxHeartbeats 4000000
/-! DL79: the parts of a lot, one by one. -/
namespace DL
open PySem PySem.Spec PyProof.Rows L2
end DL
set_option Elab.async false
set_option linter.all false
set_option maxRecDepth 100000
set_option maxHeartbeats 4000000
/-! DL80: tables in a list of dicts; parts that fit. -/
namespace DL
open PySem PySem.Spec PyProof.Rows L2
end DL
set_option Elab.async false
set_option linter.all false
set_option maxRecDepth 100000
set_option maxHeartbeats 4000000
/-! DL81: list + list as a new list of one's own. -/
namespace DL
open PySem PySem.Spec PyProof.Rows L2
variable [TabsC]
section
variable {X : Cx} {W : WX} {a b c e : Expr} {ba bb : Bool} {ma mb : TM} {pos p apos cpos : Pos}
def fAddL (x y : D) (Q : D → Prop) : Prop := match x, y with
  | .list xs, .list ys => xs.length + ys.length ≤ sizeLine ∧ Q (.list (xs ++ ys))
  | _, _ => False
theorem e_fAddL {xs ys : List D} {Q : D → Prop} : fAddL (.list xs) (.list ys) Q = (xs.length + ys.length ≤ sizeLine ∧ Q (.list (xs ++ ys))) := rfl
end
end DL
set_option Elab.async false
set_option linter.all false
set_option maxRecDepth 100000
set_option maxHeartbeats 4000000
/-! DL82: paying greatest coins first. -/
namespace DL
open PySem PySem.Spec PyProof.Rows L2
end DL
set_option Elab.async false
set_option linter.all false
set_option maxRecDepth 100000
set_option maxHeartbeats 4000000
/-! DL83: a name stored within a test; while. -/
namespace DL
open PySem PySem.Spec PyProof.Rows L2
variable [TabsC]
section
variable {X : Cx} {W : WX} {a b c e : Expr} {ba bb : Bool} {ma mb : TM} {na : BM} {sts sts' : List Stmt} {m m' : SM} {pos p1 p2 p3 p4 : Pos} {j : Nat}
def sIfW (neg : Bool) (i : Nat) (ma : TM) (m m' : SM) : SM := fun δ k => ma δ (fun d => if (neg ^^ isNoneD d) = true then m (δ.set i (.v d)) k else m' (δ.set i (.v d)) k) (k.er δ)
end
end DL
set_option Elab.async false
set_option linter.all false
set_option maxRecDepth 100000
set_option maxHeartbeats 4000000
/-! DL84: rooms by their index; shutters. -/
namespace DL
open PySem PySem.Spec PyProof.Rows L2
end DL
set_option Elab.async false
set_option linter.all false
set_option maxRecDepth 100000
set_option maxHeartbeats 4000000
/-! DL85: rooms of merged rows; a claim for any row that is drawn. -/
namespace DL
open PySem PySem.Spec PyProof.Rows L2
end DL
set_option Elab.async false
set_option linter.all false
set_option maxRecDepth 100000
set_option maxHeartbeats 4000000
/-! DL86: shutters, listed and decided. -/
namespace DL
open PySem PySem.Spec PyProof.Rows L2
end DL
set_option Elab.async false
set_option linter.all false
set_option maxRecDepth 100000
set_option maxHeartbeats 4000000
/-! DL87: list(zip(a, b)), at the library's level. -/
namespace PySem
end PySem
namespace DL
open PySem PySem.Spec PyProof.Rows L2
variable [TabsC]
/-- the zip at z and its parts, before turn i -/
def ZSt (z TI TO i1 i2 a b : Addr) (i : Nat) (h : Heap) : Prop :=
  ((IsZip h z TI TO .none ∧ ∃ x y, PySem.IsTupOf2 h TO x y) ∨ ∃ T f oT, IsZipHeld h z TI TO T f ∧ h.get? T = some oT ∧ oT.cls = .type "tuple" ∧ T ∉ [z, TI, TO, i1, i2] ∧ ∃ x y, PySem.IsTupOf2 h TO x y) ∧ PySem.IsTupOf2 h TI (.ref i1) (.ref i2) ∧ h.IsTupleIter i1 a i ∧ h.IsTupleIter i2 b i
theorem ZSt.keep {z TI TO i1 i2 a b : Addr} {i : Nat} {h h' : Heap} {S : Addr} (st : ZSt z TI TO i1 i2 a b i h) (hS : S ∉ [z, TI, TO, i1, i2]) (hl : ∀ o, h.get? S = some o → o.cls ≠ .type "tuple") (k : ∀ c o, c ≠ S → h.get? c = some o → h'.get? c = some o) : ZSt z TI TO i1 i2 a b i h' := by
  obtain ⟨st, hTI, h1, h2⟩ := st
  have ne : ∀ c, c ∈ [z, TI, TO, i1, i2] → c ≠ S := fun c hc e => hS (e ▸ hc)
  refine ⟨?_, k _ _ (ne _ (by simp)) hTI, h1.at fun o q => k _ _ (ne _ (by simp)) q, h2.at fun o q => k _ _ (ne _ (by simp)) q⟩
  rcases st with ⟨hz, x, y, hTO⟩ | ⟨T, f, oT, hz, hT, hc, hn, x, y, hTO⟩
  · exact .inl ⟨k _ _ (ne _ (by simp)) hz, x, y, k _ _ (ne _ (by simp)) hTO⟩
  · exact .inr ⟨T, f, oT, k _ _ (ne _ (by simp)) hz, k _ _ (fun e => hl oT (e ▸ hT) hc) hT, hc, hn, x, y, k _ _ (ne _ (by simp)) hTO⟩
section
variable {X : Cx} {W : WX} {e e2 : Expr} {ba : Bool} {la : LM} {p p2 pos pos2 : Pos}
/-- list(zip(x, y)) of two tuples -/
def mListZip (la : LM) : TM := fun δ Q E => la δ (fun ds => ∃ xs ys, ds = [.tup xs, .tup ys] ∧ Q (.list (zipD xs ys))) E
end
end DL
set_option Elab.async false
set_option linter.all false
set_option maxRecDepth 100000
set_option maxHeartbeats 4000000
/-! DL88: sum of a tuple of ints. -/
namespace DL
open PySem PySem.Spec PyProof.Rows L2
variable [TabsC]
section
variable {X : Cx}
def fSumT (ds : List D) (Q : D → Prop) : Prop := ∃ ns : List Int, ds = [.tup (ns.map .int)] ∧ Q (.int ns.sum)
end
end DL
set_option Elab.async false
set_option linter.all false
set_option maxRecDepth 100000
set_option maxHeartbeats 4000000
/-! DL89: profiles given by a function of the size; the common and the joint store. -/
namespace DL
open PySem PySem.Spec PyProof.Rows L2
variable [TabsC]
/-- a function of the size that is a profile: of numbers below 10 ** 200, a unit is parted into units below -/
structure ProfF (ns : List Int) (f : Int → Int) : Prop where
  bnd : ∀ s, s ∈ ns → 0 ≤ f s ∧ f s < 10 ^ 200
  stp : ∀ lo hi, lo ∈ ns → hi ∈ ns → lo ∣ hi → f hi * (hi / lo) ≤ f lo
theorem ProfF.rooms {f : Int → Int} : ∀ {ns : List Int}, ns.Pairwise (· ∣ ·) → ProfF ns f → ∀ r, r ∈ roomsF ns (ns.map f) → 0 ≤ r
  | [], _, _, r, h => by simp [roomsF] at h
  | [lo], _, hp, r, h => by
    simp only [roomsF, List.map_cons, List.map_nil, List.mem_cons, List.not_mem_nil, or_false, Int.sub_zero] at h
    rw [h]
    exact (hp.bnd lo (by simp)).1
  | lo :: hi :: cs, hd, hp, r, h => by
    have e : roomsF (lo :: hi :: cs) ((lo :: hi :: cs).map f) = (f lo - f hi * (hi / lo)) :: roomsF (hi :: cs) ((hi :: cs).map f) := rfl
    rw [e] at h
    rcases List.mem_cons.mp h with h | h
    · have := hp.stp lo hi (by simp) (by simp) ((List.pairwise_cons.mp hd).1 hi (by simp))
      omega
    · exact ProfF.rooms (List.pairwise_cons.mp hd).2 ⟨fun s hs => hp.bnd s (List.mem_cons_of_mem _ hs), fun a b ha hb => hp.stp a b (List.mem_cons_of_mem _ ha) (List.mem_cons_of_mem _ hb)⟩ r h
theorem ProfF.len (ns : List Int) (f : Int → Int) : ns.length = (ns.map f).length := (List.length_map f).symm
/-- its plain store -/
def plF (ns : List Int) (f : Int → Int) : Runs := plainR ns (ns.map f)
theorem plF_prof {ns : List Int} {f : Int → Int} (hn : chN ns) (h : ProfF ns f) : profL ns (plF ns f) = ns.map f :=
  prof_plain hn.1 hn.2.1 (fun i hi => (hn.2.2.2.2 i hi).1) (ProfF.len ns f) (h.rooms (pair_gap hn.2.1))
theorem plF_space {ns : List Int} {f : Int → Int} (hn : chN ns) (h : ProfF ns f) {s : Int} (hs : s ∈ ns) : spaceT (plF ns f) s = f s := List.map_inj_left.mp (plF_prof hn h) s hs
theorem ProfF.plain {ns : List Int} {f : Int → Int} (hn : chN ns) (h : ProfF ns f) : ProfF ns (spaceT (plF ns f)) :=
  ⟨fun s hs => by rw [plF_space hn h hs]; exact h.bnd s hs, fun lo hi h1 h2 hd => by rw [plF_space hn h h1, plF_space hn h h2]; exact h.stp lo hi h1 h2 hd⟩
end DL
set_option Elab.async false
set_option linter.all false
set_option maxRecDepth 100000
set_option maxHeartbeats 4000000
/-! DL90: xs.count(k), xs a list of ints. -/
namespace DL
open PySem PySem.Spec PyProof.Rows L2
variable [TabsC]
section
variable {X : Cx} {W : WX} {o e : Expr} {ba bb : Bool} {ma mb : TM} {apos cpos : Pos}
def mLCount (ma mb : TM) : TM := fun δ Q E => ma δ (fun x => ∃ ns : List Int, x = .list (ns.map .int) ∧ mb δ (fun y => ∃ k : Int, y = .int k ∧ Q (.int (ns.count k : Nat))) E) E
end
end DL
set_option Elab.async false
set_option linter.all false
set_option maxRecDepth 100000
set_option maxHeartbeats 4000000
/-! DL91: the first and the last things of a lot, the thing at an index. -/
namespace DL
open PySem PySem.Spec PyProof.Rows L2
end DL
set_option Elab.async false
set_option linter.all false
set_option maxRecDepth 100000
set_option maxHeartbeats 4000000
/-! DL92: a lot's things as a row; both ends together make the lot. -/
namespace DL
open PySem PySem.Spec PyProof.Rows L2
end DL
set_option Elab.async false
set_option linter.all false
set_option maxRecDepth 100000
set_option maxHeartbeats 4000000
/-! DL93: a lot's two ends. -/
namespace DL
open PySem PySem.Spec PyProof.Rows L2
variable [TabsC]
def okM (M : Tab) : Prop := (keysT M).Pairwise (· < ·) ∧ M.length ≤ 12 ∧ ∀ p, p ∈ M → 1 ≤ p.2 ∧ p.2 ≤ 10 ^ 60
theorem okM.nd {M : Tab} (h : okM M) : (keysT M).Nodup := h.1.imp fun h => by omega
theorem okM.pos {M : Tab} (h : okM M) : ∀ p, p ∈ M → 1 ≤ p.2 := fun p hp => (h.2.2 p hp).1
end DL
set_option Elab.async false
set_option linter.all false
set_option maxRecDepth 100000
set_option maxHeartbeats 4000000
/-! DL94: least numbers by single rooms. -/
namespace DL
open PySem PySem.Spec PyProof.Rows L2
end DL
set_option Elab.async false
set_option linter.all false
set_option maxRecDepth 100000
set_option maxHeartbeats 4000000
/-! DL95: a dict merged into a new one ({**d, ..}). -/
namespace PySem
end PySem
namespace PySem
end PySem
set_option Elab.async false
set_option linter.all false
set_option maxRecDepth 100000
set_option maxHeartbeats 4000000
/-! DL96: {**d, k: v}. -/
namespace DL
open PySem PySem.Spec PyProof.Rows L2
def mDStar (md mk mv : TM) : TM := fun δ Q E => md δ (fun d => ∃ ds : List (Key × D), d = .dict ds ∧ ds.length ≤ 1000 ∧ mk δ (fun x => mv δ (fun y => ∃ k : Key, x = keyD k ∧ Q (.dict (putD (mergeD [] ds) k y))) E) E) E
section
variable [TabsC]
theorem At.grab {K : PySem.W.Frag} {W : WX} {σ : L2.St} {H H' : Hp} {F : Fm} {own : List Addr} {δ : List DV} {EK : Er → Prop} {p : Addr} (A : At K W σ H F own δ EK) (hp : H p = none) (s : Same H H') (hn : ∃ o, H' p = some o ∧ Plain o) :
    At K W σ H' F (p :: own) δ EK :=
  ⟨A.env.grab hp s hn, fun er cls dd H'' k s' r => A.pass er cls dd H'' k (s.trans s') (r.less fun b hb => (List.mem_append.mp hb).elim (fun z => List.mem_append_left _ z) fun z => List.mem_append_right _ (List.mem_cons_of_mem _ z))⟩
end
end DL
set_option Elab.async false
set_option linter.all false
set_option maxRecDepth 100000
set_option maxHeartbeats 4000000
/-! DL97: tables told by their counts. -/
namespace DL
open PySem PySem.Spec PyProof.Rows L2
section
variable [TabsC]
theorem cnt_out {L : Tab} {k : Int} (h : k ∉ keysT L) : cntT L k = 0 := by
  unfold cntT
  rw [valT_none h] <;> rfl
theorem nd_asc {L : Tab} (a : ascL (keysT L) = true) : (keysT L).Nodup := List.nodup_iff_pairwise_ne.mpr ((pair_asc a).imp fun h => by omega)
theorem posT_pos {T : Tab} : ∀ p, p ∈ posT T → 1 ≤ p.2 := fun p hp => by have := of_decide_eq_true (List.mem_filter.mp hp).2; omega
theorem cnt_snoc {L : Tab} {k z n : Int} (h : z ∉ keysT L) : cntT (L ++ [(z, n)]) k = cntT L k + if k = z then n else 0 := by
  unfold cntT valT
  rw [List.find?_append]
  by_cases e : k = z
  · subst e
    have : L.find? (fun p => decide (p.1 = k)) = none := List.find?_eq_none.mpr fun p hp q => h (List.mem_map.mpr ⟨p, hp, of_decide_eq_true q⟩)
    rw [this, if_pos rfl]
    simp
  · rw [if_neg e]
    have : List.find? (fun p : Int × Int => decide (p.1 = k)) [(z, n)] = none := by simp [Ne.symm e]
    rw [this, Option.or_none]
    omega
theorem inc_at {L : Tab} (hn : (keysT L).Nodup) (z n k : Int) : cntT (incT L z n) k = cntT L k + if k = z then n else 0 := by
  have nd := inc_nodup (z := z) (n := n) hn
  by_cases hz : z ∈ keysT L
  · unfold incT at nd ⊢
    rw [if_pos hz] at nd ⊢
    by_cases hk : k ∈ keysT L
    · obtain ⟨p, hp, rfl⟩ := List.mem_map.mp hk
      have := cntT_mem nd (List.mem_map.mpr ⟨p, hp, rfl⟩)
      rw [cntT_mem hn hp]
      by_cases e : p.1 = z
      · rw [if_pos e] at this ⊢
        exact this
      · rw [if_neg e] at this ⊢
        rw [this]; omega
    · rw [cnt_out (by rw [inc_keys_map]; exact hk), cnt_out hk, if_neg (fun e : k = z => hk (by rw [e]; exact hz))] <;> rfl
  · unfold incT
    rw [if_neg hz]
    exact cnt_snoc hz
end
end DL
set_option Elab.async false
set_option linter.all false
set_option maxRecDepth 100000
set_option maxHeartbeats 4000000
/-! DL98: a lot's record: ascending sizes, counts of at least 1, with bounds. -/
namespace DL
open PySem PySem.Spec PyProof.Rows L2
section
variable [TabsC]
structure recOk (P : Tab) (K B : Int) : Prop where
  a : ascL (keysT P) = true
  l : P.length ≤ 12
  b : ∀ p, p ∈ P → (1 ≤ p.1 ∧ p.1 ≤ K) ∧ 1 ≤ p.2 ∧ p.2 ≤ B
theorem recOk.nd {P : Tab} {K B : Int} (h : recOk P K B) : (keysT P).Nodup := nd_asc h.a
theorem recOk.pos {P : Tab} {K B : Int} (h : recOk P K B) : ∀ p, p ∈ P → 1 ≤ p.2 := fun p hp => (h.b p hp).2.1
theorem recOk.self {P : Tab} {K B : Int} (h : recOk P K B) : sortT P = P := sortT_self h.a
end
end DL
set_option Elab.async false
set_option linter.all false
set_option maxRecDepth 100000
set_option maxHeartbeats 4000000
/-! DL99: sums and differences of records. -/
namespace DL
open PySem PySem.Spec PyProof.Rows L2
end DL
set_option Elab.async false
set_option linter.all false
set_option maxRecDepth 100000
set_option maxHeartbeats 4000000
/-! DL100: records told by their counts; dict(list of pairs of a table). -/
namespace DL
open PySem PySem.Spec PyProof.Rows L2
section
variable [TabsC]
theorem dictP_tab {T : Tab} (hn : (keysT T).Nodup) {Q : D → Prop} (q : Q (.dict (tabD T))) : fDictP [.list (T.map pairD)] Q := by
  rw [tab_pairs]
  refine ⟨_, rfl, ?_⟩
  rw [merge_all hn]
  exact q
theorem recOk.at {P : Tab} {K B : Int} (h : recOk P K B) (k : Int) : cntT P k = 0 ∨ ((1 ≤ k ∧ k ≤ K) ∧ 1 ≤ cntT P k ∧ cntT P k ≤ B) := by
  by_cases e : k ∈ keysT P
  · obtain ⟨p, hp, rfl⟩ := List.mem_map.mp e
    rw [cntT_mem h.nd hp]
    exact .inr (h.b p hp)
  · exact .inl (cnt_out e)
end
end DL
set_option Elab.async false
set_option linter.all false
set_option maxRecDepth 100000
set_option maxHeartbeats 4000000
/-! DL101: sums over tables that are added. -/
namespace DL
open PySem PySem.Spec PyProof.Rows L2
end DL
set_option Elab.async false
set_option linter.all false
set_option maxRecDepth 100000
set_option maxHeartbeats 4000000
/-! DL102: a class whose __iter__ gives iter(self.f), f a tuple or a dict: list(o). -/
namespace DL
open PySem PySem.Spec PyProof.Rows L2
variable [TabsC]
def tupIt (t : Addr) : Obj := { cls := .type "tuple_iterator", data := .fields #[.ref t, .int 0 0] }
def keyIt (d : Addr) (n ep : Nat) : Obj := { cls := .type "dict_keyiterator", data := .fields #[.ref d, .int 0 0, .int n 0, .int ep 0] }
/-- what is walked -/
def SrcV (K : PySem.W.Frag) (H : Hp) (v : V) (ys : List V) : Prop :=
  (∃ t, v = .ref t ∧ SqT K H t ys) ∨ ∃ (d : Addr) (od : Obj) (kvs : List (Key × V)), v = .ref d ∧ H d = some (.frz od (.dK kvs)) ∧ ys = kvs.map fun kv => kV kv.1
/-- .. with its new iterator's object -/
def ItSrc (K : PySem.W.Frag) (H : Hp) (v : V) (ys : List V) (o : Obj) : Prop :=
  (∃ t, v = .ref t ∧ SqT K H t ys ∧ o = tupIt t) ∨ ∃ (d : Addr) (od : Obj) (kvs : List (Key × V)) (es : Array DictEntry) (ep : Nat), v = .ref d ∧ H d = some (.frz od (.dK kvs)) ∧ ys = (kvs.map fun kv => kV kv.1) ∧ od.data = .dict es ep ∧ o = keyIt d kvs.length ep
theorem ItSrc.grow {K : PySem.W.Frag} {H H' : Hp} {v : V} {ys : List V} {o : Obj} (h : ItSrc K H v ys o) (e : Grow H H') : ItSrc K H' v ys o := by
  rcases h with ⟨t, h1, h2, h3⟩ | ⟨d, od, kvs, es, ep, h1, h2, h3⟩
  · refine .inl ⟨t, h1, ?_, h3⟩
    rcases h2 with (h2 | ⟨o, h2⟩) | h2
    · exact .inl (.inl (e _ _ h2))
    · exact .inl (.inr ⟨o, e _ _ h2⟩)
    · exact .inr h2
  · exact .inr ⟨d, od, kvs, es, ep, h1, e _ _ h2, h3⟩
/-! ### __iter__ -/
/-! ### list(o) -/
end DL
set_option Elab.async false
set_option linter.all false
set_option maxRecDepth 100000
set_option maxHeartbeats 4000000
/-! DL103: list(o) of a class whose __iter__ gives iter(self.f). -/
namespace DL
open PySem PySem.Spec PyProof.Rows L2
variable [TabsC]
theorem SrcV.grow {K : PySem.W.Frag} {H H' : Hp} {v : V} {ys : List V} (h : SrcV K H v ys) (e : Grow H H') : SrcV K H' v ys := by
  rcases h with ⟨t, h1, h2⟩ | ⟨d, od, kvs, h1, h2, h3⟩
  · refine .inl ⟨t, h1, ?_⟩
    rcases h2 with (h2 | ⟨o, h2⟩) | h2
    · exact .inl (.inl (e _ _ h2))
    · exact .inl (.inr ⟨o, e _ _ h2⟩)
    · exact .inr h2
  · exact .inr ⟨d, od, kvs, h1, e _ _ h2, h3⟩
/-! ### over data -/
def srcD (w : D) (k : List D → Prop) : Prop := match w with
  | .tup ds => k ds
  | .dict kvs => k (kvs.map fun kv => keyD kv.1)
  | _ => False
theorem e_srcT (ds : List D) (k : List D → Prop) : srcD (.tup ds) k = k ds := rfl
theorem e_srcK (kvs : List (Key × D)) (k : List D → Prop) : srcD (.dict kvs) k = k (kvs.map fun kv => keyD kv.1) := rfl
def mListO (n f : Str) (mL : FM) (ma : TM) : TM := fun δ Q E => ma δ (fun a => ∃ fs : List (Str × D), a = .obj n fs ∧ ∃ w, fs.lookup f = some w ∧ mL [a] (fun r => ∃ i : Int, r = .int i ∧ 0 ≤ i ∧ i < 2 ^ 24) NoE ∧ srcD w fun ds => Q (.list ds)) E
end DL
set_option Elab.async false
set_option linter.all false
set_option maxRecDepth 100000
set_option maxHeartbeats 4000000
/-! DL104: a def that gives a new container of its own: x = o.f, x written behind it. -/
namespace DL
open PySem PySem.Spec PyProof.Rows L2
variable [TabsC]
def spF (K : PySem.W.Frag) (m : FM) : Sp := fun vs H Q E => ∃ (fo : List Addr) (ds : List D) (P : D → Prop) (EK : Er → Prop), (∀ l, l ∈ fo → ∃ o, H l = some o ∧ Plain o) ∧ LamX.Tabs TabsC.T H ∧ Reps K (sub H fo) vs ds ∧ m ds P EK ∧
  (∀ d p H', P d → H p = none → Same H H' → FV K (p :: fo) H' p d → Q (.ref p) H') ∧ (∀ er cls dd H', EK er → Same H H' → RepEr K fo H' cls dd er → E cls dd H')
abbrev FnF (P : Program) (w : World) (K : PySem.W.Frag) (mg : Str → Option Value) (base : Heap) (k : Nat) (f : Addr) (m : FM) : Prop := FnP P w K mg base k f (spF K m)
theorem FnF.imp {P : Program} {w : World} {K : PySem.W.Frag} {mg : Str → Option Value} {base : Heap} {k : Nat} {f : Addr} {m m' : FM} (F : FnF P w K mg base k f m) (h : ∀ ds Q E, m' ds Q E → m ds Q E) : FnF P w K mg base k f m' :=
  fun A outer s H us vs Q E hG hr e r ⟨fo, ds, P, EK, t, tb, rs, m, q⟩ => F A outer s H us vs Q E hG hr e r ⟨fo, ds, P, EK, t, tb, rs, h _ _ _ m, q⟩
end DL
set_option Elab.async false
set_option linter.all false
set_option maxRecDepth 100000
set_option maxHeartbeats 4000000
/-! DL105: a lot as it is told: text, lines. -/
namespace DL
open PySem PySem.Spec PyProof.Rows L2
end DL
set_option Elab.async false
set_option linter.all false
set_option maxRecDepth 100000
set_option maxHeartbeats 4000000
/-! DL106: d.pop(k, e) of a dict that has no such key. -/
namespace DL
open PySem PySem.Spec PyProof.Rows L2
variable [TabsC]
section
variable {X : Cx} {W : WX} {o e e2 : Expr} {ba bb : Bool} {ma mk mc : TM} {apos pos cpos : Pos} {td ty tx : TE}
def mDPopN (ma mk mv : TM) : TM := fun δ Q E => ma δ (fun d => ∃ ds : List (Key × D), d = .dict ds ∧ mk δ (fun kd => mv δ (fun v => ∃ key : Key, kd = keyD key ∧ valD ds key = none ∧ Q v) E) E) E
end
end DL
set_option Elab.async false
set_option linter.all false
set_option maxRecDepth 100000
set_option maxHeartbeats 4000000
/-! DL107: how many rooms of each, as a table; a store's text. -/
namespace DL
open PySem PySem.Spec PyProof.Rows L2
end DL
set_option Elab.async false
set_option linter.all false
set_option maxRecDepth 100000
set_option maxHeartbeats 4000000
/-! DL108: runs whose neighbours differ; merging twice. -/
namespace DL
open PySem PySem.Spec PyProof.Rows L2
end DL
set_option Elab.async false
set_option linter.all false
set_option maxRecDepth 100000
set_option maxHeartbeats 4000000
/-! DL109: classmethods: C.m(e, ..), and cls(e) in such a body. -/
namespace DL
open PySem PySem.Spec PyProof.Rows L2
variable [TabsC]
section
variable {X : Cx} {W : WX} {e : Expr} {es : List Expr} {ba : Bool} {ma : TM} {la : LM} {mm : FM} {mi : MM} {pos p apos : Pos} {n m x : Str} {k : Nat} {C q g : Addr} {mc : Value}
def mCM (n : Str) (m : FM) (la : LM) : TM := fun δ Q E => la δ (fun ds => m (.fn n :: ds) Q E) E
/-- x(e, ..), where x is a name that holds a class -/
def mMakeL (i : Nat) (n : Str) (m : MM) (la : LM) : TM := fun δ Q E => δ[i]? = some (.v (.fn n)) ∧ mMake n m la δ Q E
/-- x(*e), where x is a name that holds a class -/
def mMakeSL (i : Nat) (n : Str) (m : MM) (ma : TM) : TM := fun δ Q E => δ[i]? = some (.v (.fn n)) ∧ mMakeS n m ma δ Q E
end
/-! ### what of the text a classmethod must have, told by looking -/
end DL
set_option Elab.async false
set_option linter.all false
set_option maxRecDepth 100000
set_option maxHeartbeats 4000000
/-! DL110: t.split(s); int(text); figures read. -/
namespace DL
open PySem PySem.Spec PyProof.Rows L2
variable [TabsC]
section
variable {X : Cx} {W : WX} {o e : Expr} {ba bb : Bool} {ma mb : TM} {pos apos : Pos}
def mSplit (ma mb : TM) : TM := fun δ Q E => ma δ (fun d => ∃ a, d = .str a ∧ mb δ (fun f => ∃ b, f = .str b ∧ (b.length == 0) = false ∧ a.length + 2 ≤ sizeLine ∧ Q (.list ((Txt.split a b).map .str))) E) E
end
/-! ### figures -/
end DL
set_option Elab.async false
set_option linter.all false
set_option maxRecDepth 100000
set_option maxHeartbeats 4000000
/-! DL111: enumerate of a list; parts of texts. -/
namespace DL
open PySem PySem.Spec PyProof.Rows L2
variable [TabsC]
section
variable {X : Cx} {W : WX} {e : Expr} {ba : Bool} {la : LM} {ma : TM} {p pos : Pos}
def mEnumL (la : LM) : LM := fun δ P E => la δ (fun ds => ∃ xs, ds = [.list xs] ∧ P (enumD xs)) E
theorem itok_enumL {K : PySem.W.Frag} {Hg Hb : Hp} {a : Addr} {xs : List V} {ds : List D} (h : Hg a = some (.lst xs)) (hz : xs.length ≤ sizeLine) (r : Reps K Hb xs ds) : ItOk K (Ite K a) Hg Hb (enumD ds) where
  sz := by rw [enumD_len, ← r.length]; exact hz
  go := fun i H s hi => by
    rw [enumD_len, ← r.length] at hi
    exact ⟨xs, xs[i], .of (s _ _ h), List.getElem?_eq_getElem hi⟩
  stop := fun i H s hi => by
    rw [enumD_len, ← r.length] at hi
    exact ⟨xs, .of (s _ _ h), Nat.le_of_eq hi.symm⟩
  yld := fun i H x H' ls s sb ht hi ⟨T, v, ev, hT, eH, k1⟩ => by
    subst ev eH
    obtain ⟨d, e1, r1⟩ := r.get (k1 xs (.of (s _ _ h)))
    exact ⟨_, enumD_get e1, same_upd hT, new_tup ht hT (by show 2 ≤ sizeLine; rw [sizeLine_eq]; decide) (.cons (.int _) (.cons (r1.mono sb) .nil))⟩
theorem di_enumL {elts : List Expr} {kk : Nat} {tpos : Pos} (hg : Gl X "enumerate") (hm : X.mg "enumerate" = none) (ha : DA X W [e] ba la) (hs : starEach [e] X.env = [(false, eval e X.env)] := by rfl) :
    DI X W (.Tuple elts kk tpos) (.Call (.Name "enumerate" p) [e] [] pos) ba (mEnumL la) :=
  PI.imp (pi_enum hg hm ha hs) fun σ H R ⟨F, own, δ, P, EK, A, m, q⟩ => ⟨F, own, δ, _, EK, A, m, fun ds vs H1 ⟨xs, ed, pq⟩ s r => by
    subst ed
    cases r with
    | cons r1 r =>
      cases r
      obtain ⟨a, us, rfl, h1, h2, h3⟩ := flo_list r1
      exact ⟨a, us, rfl, .of (flo_le _ _ h1), q _ _ H1 pq s (itok_enumL h1 h2 h3)⟩⟩
def mSliceS (ma : TM) (ml mu : OM) : TM := fun δ Q E => ma δ (fun d => ml δ (fun lo => mu δ (fun hi => ∃ z, d = .str z ∧ z.length ≤ sizeLine ∧ Q (.str (cutS z lo hi))) E) E) E
end
end DL
set_option Elab.async false
set_option linter.all false
set_option maxRecDepth 100000
set_option maxHeartbeats 4000000
/-! DL112: texts compared; words of a line. -/
namespace DL
open PySem PySem.Spec PyProof.Rows L2
end DL
set_option Elab.async false
set_option linter.all false
set_option maxRecDepth 100000
set_option maxHeartbeats 4000000
/-! DL113: xs != [] of any list. -/
namespace DL
open PySem PySem.Spec PyProof.Rows L2
end DL
set_option Elab.async false
set_option linter.all false
set_option maxRecDepth 100000
set_option maxHeartbeats 4000000
/-! DL114: classes with one slot: reading it, methods, properties, making. -/
namespace DL
open PySem PySem.Spec PyProof.Rows L2
variable [TabsC]
/-- what plain data may rest on -/
def seqO : HO → Bool
  | .lst _ => true
  | .tup _ => true
  | .frz _ _ => true
  | _ => false
mutual
theorem Rep.py_mono {K : PySem.W.Frag} {H H' : Hp} (e : ∀ b o, H b = some o → seqO o = true → H' b = some o) : ∀ {v : V} {d : D}, Rep K H v d → d.isPy = true → Rep K H' v d
  | _, _, .non, _ => .non
  | _, _, .bool b, _ => .bool b
  | _, _, .int i, _ => .int i
  | _, _, .str x, _ => .str x
  | _, _, .list h l r, p => .list (e _ _ h rfl) l (Reps.py_mono e r (by simpa [D.isPy] using p))
  | _, _, .tup h l r, p => .tup (by
      rcases h with (h | ⟨o, h⟩) | h
      · exact .inl (.inl (e _ _ h rfl))
      · exact .inl (.inr ⟨o, e _ _ h rfl⟩)
      · exact .inr h) l (Reps.py_mono e r (by simpa [D.isPy] using p))
  | _, _, .dict h l r, p => .dict (e _ _ h rfl) l (RepKs.py_mono e r (by simpa [D.isPy] using p))
  | _, _, .obj _ _ _, p => by simp [D.isPy] at p
  | _, _, .dice _, p => by simp [D.isPy] at p
  | _, _, .script _ _, p => by simp [D.isPy] at p
  | _, _, .tdict _ _ _ _, p => by simp [D.isPy] at p
  | _, _, .opq _, p => by simp [D.isPy] at p
  | _, _, .ty _, p => by simp [D.isPy] at p
  | _, _, .fn _, p => by simp [D.isPy] at p
  | _, _, .exc _ _ _, p => by simp [D.isPy] at p
  | _, _, .sob _ _ _ _, p => by simp [D.isPy] at p
theorem Reps.py_mono {K : PySem.W.Frag} {H H' : Hp} (e : ∀ b o, H b = some o → seqO o = true → H' b = some o) : ∀ {vs : List V} {ds : List D}, Reps K H vs ds → D.arePy ds = true → Reps K H' vs ds
  | _, _, .nil, _ => .nil
  | _, _, .cons r t, p => by
    have p' : _ = true ∧ _ = true := (by simpa [D.arePy] using p : D.isPy _ = true ∧ D.arePy _ = true)
    exact .cons (Rep.py_mono e r p'.1) (Reps.py_mono e t p'.2)
theorem RepKs.py_mono {K : PySem.W.Frag} {H H' : Hp} (e : ∀ b o, H b = some o → seqO o = true → H' b = some o) : ∀ {vs : List (Key × V)} {ds : List (Key × D)}, RepKs K H vs ds → D.areKs ds = true → RepKs K H' vs ds
  | _, _, .nil, _ => .nil
  | _, _, .cons r t, p => by
    have p' : _ = true ∧ _ = true := (by simpa [D.areKs] using p : D.isPy _ = true ∧ D.areKs _ = true)
    exact .cons (Rep.py_mono e r p'.1) (RepKs.py_mono e t p'.2)
end
theorem execs_app (l rest : List Stmt) (env : Env) : execs (l ++ rest) env = (execs l env).bind fun f => match f with | .next => execs rest env | f => .pure f := by
  induction l with
  | nil => rfl
  | cons s l ih =>
    show (exec s env).bind (fun f => match f with | .next => execs (l ++ rest) env | f => .pure f) = ((exec s env).bind fun f => match f with | .next => execs l env | f => .pure f).bind _
    rw [Sem.bind_assoc]
    refine congrArg _ (funext fun f => ?_)
    cases f <;> first | exact ih | rfl
theorem pss_app {X : Cx} {a b : List Stmt} {t u : TS} (h1 : PSs X a t) (h2 : PSs X b u) : PSs X (a ++ b) (tSeq t u) := by
  refine ⟨fun pins s σ H D I h => ?_⟩
  rw [execs_app]
  refine wpAny_bind (thn (h1.run pins s σ H { D with nx := u D } I h) fun f s1 q => ?_)
  cases f with
  | next =>
    obtain ⟨σ', H', I', q⟩ := q
    exact h2.run pins s1 σ' H' D I' q
  | ret v => exact wpAny_pure q
  | brk => exact wpAny_pure q
  | cont => exact wpAny_pure q
theorem RV.sob {K : PySem.W.Frag} {fo ls : List Addr} {H : Hp} {b : Bool} {v : V} {n : Str} {d : D} (r : RV K fo ls H b v (.sob n d)) :
    ∃ C a dx w, PySem.W.nsIn K mainGlobals n = some (some (.ref C)) ∧ v = .ref a ∧ SlX.Slt H a C dx [some w] ∧ Rep K (sub H ls) w d := by
  cases r with
  | cl r =>
    cases r with
    | sob c h k r => exact ⟨_, _, _, _, c, rfl, .inr ⟨sub_le _ _ h, sub_le _ _ k⟩, r⟩
section
variable {X : Cx} {W : WX} {a b c e e2 o : Expr} {es : List Expr} {ba bb : Bool} {ma mb mo : TM} {la : LM} {pos p apos : Pos} {n f mn x : Str} {k : Nat} {C g q0 : Addr} {m : FM}
/-! ### e.f -/
def mSl (n : Str) (ma : TM) : TM := fun δ Q E => ma δ (fun d => ∃ v : D, d = .sob n v ∧ Q v) E
theorem de_sl (hC : PySem.W.nsIn X.K mainGlobals n = some (some (.ref C))) (c : SlX.SCls X.K C) (t : SlX.Slot1 X.K C f q0 0) (he : DE X W e ba ma) (hb : attributeBase e f X.env (eval e X.env) = eval e X.env := by rfl) : DE X W (.Attribute e f pos) false (mSl n ma) :=
  PE.imp (SlX.pe_sl he hb) fun σ H Q ⟨F, own, δ, P, EK, A, m, q⟩ => ⟨F, own, δ, _, EK, A, m, fun d v H1 ⟨w, ed, m1⟩ s1 r1 => by
    subst ed
    obtain ⟨C', a, dx, u, hC', rfl, h1, h2⟩ := r1.sob
    rw [hC] at hC'
    cases hC'
    exact ⟨a, C, dx, q0, _, 0, u, rfl, h1, c, t, rfl, q _ _ H1 m1 s1 (.cl h2)⟩⟩
/-! ### o.m(e, ..) -/
def mMethS (n : Str) (m : FM) (mo : TM) (la : LM) : TM := fun δ Q E => mo δ (fun d => ∃ v : D, d = .sob n v ∧ la δ (fun ds => m (d :: ds) Q E) E) E
theorem de_methS {pl : Sem Bool} (hC : PySem.W.nsIn X.K mainGlobals n = some (some (.ref C))) (cl : SlX.SCls X.K C) (F : FnD X.prog X.w X.K X.mg X.base k g m) (hm : Meth X.K C mn g) (hG : GdOk X.A X.base) (hr : Room k X.A) (tk : Takes X W)
    (ho : DE X W o ba mo) (hcl : ba = false) (ha : DA X W (e :: es) false la) (hst : starEach (e :: es) X.env = (false, eval e X.env) :: starEach es X.env := by rfl) (hpl : (backTo pos (starEach es X.env)).any (·.1) = false := by rfl)
    (ht : eval (.Call (.Attribute o mn apos) (e :: es) [] pos) X.env = (do
      let ov ← eval o X.env
      standAt apos.atName
      let (f, first) ← holding [ov] (getMethod ov mn pl)
      callWith pos f first (backTo pos (starEach (e :: es) X.env)) (backToKw pos (keywordEach [] X.env))) := by rfl) : DE X W (.Call (.Attribute o mn apos) (e :: es) [] pos) false (mMethS n m mo la) := by
  subst hcl
  refine ⟨fun pins s σ H Q I ⟨FF, own, δ, P, EK, A, mm, q⟩ => ?_⟩
  refine PySem.W.methodCall_KW (pl := pl) (thn (ho.run pins s σ H (fun x H1 => ∃ w : D, (la δ (fun ds => m (.sob n w :: ds) P EK) EK) ∧ Same H H1 ∧ Rep X.K (sub H1 (FF.ls0 ++ own)) x (.sob n w)) I ⟨FF, own, δ, _, EK, A, mm, fun d v H1 ⟨w, ed, m1⟩ s1 r1 => by
    subst ed
    exact ⟨w, m1, s1, r1.clean⟩⟩) fun u s1 ⟨x, H1, I1, rx, w, m1, s01, ro⟩ => ?_) ht
  obtain ⟨C', a, dx, vw, hC', rfl, h1, h2⟩ := (RV.cl ro : RV X.K FF.ls0 _ H1 false x _).sob
  rw [hC] at hC'
  cases hC'
  obtain rfl : u = Value.ref a := rx
  refine SlX.getmethsl_ok I1 h1 cl hm ?_
  have A0 := A.on s01
  refine PySem.W.callWith_K (first := [.ref a]) (h₀ := X.base) I1.ok.mod.kin hm.kp (thn (ha.run pos pins s1 σ H1 (fun vs H2 => ∃ ds, m (.sob n w :: ds) P EK ∧ Same H1 H2 ∧ RVs X.K FF.ls0 (FF.ls0 ++ own) H2 false vs ds) I1
    ⟨FF, own, δ, _, EK, A0, m1, fun ds vs H2 p1 s2 r2 => ⟨ds, p1, s2, r2⟩⟩) fun us s2 ⟨ws, H2, I2, rv, ds, hm1, s12, rr⟩ => ⟨I2.kIn, ?_⟩) hst hpl
  have A2 := A0.on s12
  exact runP (us := .ref a :: us) (vs := .ref a :: ws) F hG hr tk (E := fun cls dd H' => W cls dd σ H') (fun _ _ _ h => h) I2 (.cons rfl rv)
    ⟨FF.ls0 ++ own, .sob n w :: ds, P, EK, A2.env.trk, A2.tabs, .cons (ro.mono (sub_same s12.ob)) rr.clean, hm1, fun d v H' pd s3 r3 => q d v H' pd ((s01.trans s12).trans s3) (.cl r3), fun er cls dd H' ke s3 r3 => A2.pass er cls dd H' ke s3 r3⟩
def mMethS0 (n : Str) (m : FM) (mo : TM) : TM := fun δ Q E => mo δ (fun d => ∃ v : D, d = .sob n v ∧ m [d] Q E) E
theorem de_methS0 {pl : Sem Bool} (hC : PySem.W.nsIn X.K mainGlobals n = some (some (.ref C))) (cl : SlX.SCls X.K C) (F : FnD X.prog X.w X.K X.mg X.base k g m) (hm : Meth X.K C mn g) (hG : GdOk X.A X.base) (hr : Room k X.A) (tk : Takes X W) (ho : DE X W o ba mo) (hcl : ba = false)
    (ht : eval (.Call (.Attribute o mn apos) [] [] pos) X.env = (do
      let ov ← eval o X.env
      standAt apos.atName
      let (f, first) ← holding [ov] (getMethod ov mn pl)
      callWith pos f first (backTo pos (starEach [] X.env)) (backToKw pos (keywordEach [] X.env))) := by rfl) : DE X W (.Call (.Attribute o mn apos) [] [] pos) false (mMethS0 n m mo) := by
  subst hcl
  refine ⟨fun pins s σ H Q I ⟨FF, own, δ, P, EK, A, mm, q⟩ => ?_⟩
  refine PySem.W.methodCall_KW (pl := pl) (thn (ho.run pins s σ H (fun x H1 => ∃ w : D, m [.sob n w] P EK ∧ Same H H1 ∧ Rep X.K (sub H1 (FF.ls0 ++ own)) x (.sob n w)) I ⟨FF, own, δ, _, EK, A, mm, fun d v H1 ⟨w, ed, m1⟩ s1 r1 => by
    subst ed
    exact ⟨w, m1, s1, r1.clean⟩⟩) fun u s1 ⟨x, H1, I1, rx, w, m1, s01, ro⟩ => ?_) ht
  obtain ⟨C', a, dx, vw, hC', rfl, h1, h2⟩ := (RV.cl ro : RV X.K FF.ls0 _ H1 false x _).sob
  rw [hC] at hC'
  cases hC'
  obtain rfl : u = Value.ref a := rx
  refine SlX.getmethsl_ok I1 h1 cl hm ?_
  have A0 := A.on s01
  exact PySem.W.callWith_K0 I1.kIn hm.kp (runP (us := [.ref a]) (vs := [.ref a]) F hG hr tk (E := fun cls dd H' => W cls dd σ H') (fun _ _ _ h => h) I1 (.cons rfl .nil)
    ⟨FF.ls0 ++ own, [.sob n w], P, EK, A0.env.trk, A0.tabs, .cons ro .nil, m1, fun d v H' pd s3 r3 => q d v H' pd (s01.trans s3) (.cl r3), fun er cls dd H' ke s3 r3 => A0.pass er cls dd H' ke s3 r3⟩)
/-! ### e.f, a property -/
def mPropS (n : Str) (m : FM) (ma : TM) : TM := fun δ Q E => ma δ (fun d => ∃ v : D, d = .sob n v ∧ m [d] Q NoE) E
theorem de_propS {pp gg : Addr} (hC : PySem.W.nsIn X.K mainGlobals n = some (some (.ref C))) (cl : SlX.SCls X.K C) (hp : PropOf X.K C f pp gg) (F : FnD X.prog X.w X.K X.mg X.base k gg m) (hG : GdOk X.A X.base) (hr : Room (k + 1) X.A) (he : DE X W e ba ma) (hcl : ba = false)
    (hab : attributeBase e f X.env (eval e X.env) = eval e X.env := by rfl) : DE X W (.Attribute e f pos) false (mPropS n m ma) := by
  subst hcl
  refine ⟨fun pins s σ H Q I ⟨FF, own, δ, P, EK, A, mm, q⟩ => ?_⟩
  refine attr_of hab (thn (he.run pins s σ H (fun x H1 => ∃ w : D, m [.sob n w] P NoE ∧ Same H H1 ∧ Rep X.K (sub H1 (FF.ls0 ++ own)) x (.sob n w)) I ⟨FF, own, δ, _, EK, A, mm, fun d v H1 ⟨w, ed, m1⟩ s1 r1 => by
    subst ed
    exact ⟨w, m1, s1, r1.clean⟩⟩) fun u s1 ⟨x, H1, I1, rx, w, m1, s01, ro⟩ => ?_)
  obtain ⟨C', a, dx, vw, hC', rfl, h1, h2⟩ := (RV.cl ro : RV X.K FF.ls0 _ H1 false x _).sob
  rw [hC] at hC'
  cases hC'
  obtain rfl : u = Value.ref a := rx
  have A0 := A.on s01
  obtain ⟨sl, od, _, J, _⟩ := SlX.slt_inst I1 h1
  obtain ⟨rest, hrec⟩ := hp.rec_
  have I2 := I1.tok (s1.toks + 1)
  refine PySem.W.get_bind I1.kIn J (PySem.W.plainGet_of (cl.get f)).1 (PySem.W.findObj_data cl.ic hp.at_ hp.get hp.tak) (PySem.W.plainGet_of (cl.get f)).2 (wpAny_call (PySem.W.prop_get (s := { s1 with toks := s1.toks + 1 }) I1.kIn hrec ?_))
  have sp : spD X.K m [.ref a] H1 (fun v H' => Q v H') (fun _ _ _ => False) := ⟨FF.ls0 ++ own, [.sob n w], P, NoE, A0.env.trk, A0.tabs, .cons ro .nil, m1, fun d v H' pd s3 r3 => q d v H' pd (s01.trans s3) (.cl r3), fun _ _ _ _ z => z.elim⟩
  refine codeAny_mono (F X.A.in1 X.stack { s1 with toks := s1.toks + 1 } H1 [.ref a] [.ref a] _ _ hG hr.in1 I2.env0.in1 (.cons rfl .nil) sp) fun r s2 hq => ?_
  cases r with
  | error er => exact (CR_none (fun _ _ _ z => z) hq).elim
  | ok fl =>
    cases fl with
    | ret u =>
      obtain ⟨v, H', I3, rv, q3⟩ := I2.after hq
      show wpAny _ _ (handedOut u) _ _ _
      rw [PySem.W.handedOut_of (handed_of rv)]
      exact wpAny_pure ⟨v, H', I3, rv, q3⟩
    | next => exact False.elim hq
    | brk => exact False.elim hq
    | cont => exact False.elim hq
end
end DL
set_option Elab.async false
set_option linter.all false
set_option maxRecDepth 100000
set_option maxHeartbeats 4000000
/-! DL115: making instances of a class with one slot, which its __init__ writes last. -/
namespace DL
open PySem PySem.Spec PyProof.Rows L2
variable [TabsC]
def spI (K : PySem.W.Frag) (n : Str) (m : FM) : Sp := fun vs H Q E => ∃ (fo : List Addr) (x C dx : Addr) (ws : List V) (ds : List D) (P : D → Prop) (EK : Er → Prop), vs = .ref x :: ws ∧ x ∉ fo ∧ (∀ l, l ∈ fo → ∃ o, H l = some o ∧ Plain o) ∧ LamX.Tabs TabsC.T H ∧
  PySem.W.nsIn K mainGlobals n = some (some (.ref C)) ∧ H x = some (.ins C dx []) ∧ Reps K (sub H fo) ws ds ∧ m ds P EK ∧
  (∀ d v H', P d → d.isPy = true → Same H H' → Rep K (sub H' fo) v d → Q .non (SlX.slH H' x C dx [some v])) ∧
  (∀ er cls dd H', EK er → Same H H' → RepEr K fo H' cls dd er → E cls dd H')
abbrev FnI' (P : Program) (w : World) (K : PySem.W.Frag) (mg : Str → Option Value) (base : Heap) (k : Nat) (f : Addr) (n : Str) (m : FM) : Prop := FnP P w K mg base k f (spI K n m)
def kI (x : Addr) (Hc : Hp) (ma : TM) (P : D → Prop) (EK : Er → Prop) : KD := ⟨fun δ => ma δ (fun d => δ[0]? = some (.v (.opq x Hc)) ∧ d.isPy = true ∧ P d) EK, fun _ _ => False, fun _ => False, fun _ => False, fun _ er => EK er⟩
def mFunI (np n : Nat) (m : SM) (ma : TM) : FM := fun ds P EK => ds.length + 1 = np ∧ ∀ x Hc, m (startD n (.opq x Hc :: ds)) (kI x Hc ma P EK)
def mFunIS (n : Nat) (m : SM) (ma : TM) : FM := fun ds P EK => ds.length ≤ sizeLine ∧ ∀ x Hc, m (startD n [.opq x Hc, .tup ds]) (kI x Hc ma P EK)
theorem FnI'.imp {P : Program} {w : World} {K : PySem.W.Frag} {mg : Str → Option Value} {base : Heap} {k : Nat} {f : Addr} {n : Str} {m m' : FM} (F : FnI' P w K mg base k f n m) (h : ∀ ds Q E, m' ds Q E → m ds Q E) : FnI' P w K mg base k f n m' :=
  fun A outer s H us vs Q E hG hr e r ⟨fo, x, C, dx, ws, ds, P, EK, ev, hx, t, tb, hn, ha, rs, m, q⟩ => F A outer s H us vs Q E hG hr e r ⟨fo, x, C, dx, ws, ds, P, EK, ev, hx, t, tb, hn, ha, rs, h _ _ _ m, q⟩
def lastOf (st : Stmt) : Stmt := (defBody st).getLastD (.Pass ⟨0, 0, 0, 0⟩)
def initOf (st : Stmt) : List Stmt := (defBody st).dropLast
section
variable {P : Program} {w : World} {K : PySem.W.Frag} {mg : Str → Option Value} {base : Heap} {x qual pv : Str} {st : Stmt} {f C q0 : Addr} {fd : FuncData} {N ps : List Str} {k : Nat} {m : SM} {ma : TM} {n fl : Str}
/-- what such a body keeps -/
theorem bodyI {cx : Cx} {E : XK} {H : Hp} {Q : VK} {np : Nat} {vs : List V} {Nn : List Str} (hK : cx.K = K) (hC : PySem.W.nsIn K mainGlobals n = some (some (.ref C))) (cl : SlX.SCls K C) (t : SlX.Slot1 K C fl q0 0) {slf : Str} {p p' pos : Pos} {value : Expr} {init : List Stmt}
    (hi : PSs cx init (ts K (Wof E) m)) (hv : PE cx value (tm K (Wof E) false ma)) (hs : PE cx (.Name slf p) (tVar 0)) (hw : swapsWith value (some (.Attribute (.Name slf p) fl p')) pos.line cx.env = pure false)
    (h : spI K n (fun ds P EK => ds.length + 1 = np ∧ ∀ x Hc, m (startD Nn.length (.opq x Hc :: ds)) (kI x Hc ma P EK)) vs H Q E) :
    ∃ tt, PSs cx (init ++ [.Assign [.Attribute (.Name slf p) fl p'] value pos]) tt ∧ tt { nx := fun _ H' => Q .non H', rt := Q } (L2.start Nn vs) H := by
  subst hK
  obtain ⟨fo, x, C', dx, ws, ds, PQ, EK, rfl, hx, ht, tb, hn, ha, rs, ⟨hl, hm⟩, hq, he⟩ := h
  rw [hC] at hn
  cases hn
  have le : ∀ {H' : Hp} {own : List Addr}, Grow (sub H' (fo ++ own)) (sub H' fo) := sub_less fun a h => List.mem_append_left _ h
  have here : sub H fo x = some (.ins C dx []) := by rw [sub_out hx]; exact ha
  refine ⟨_, pss_app hi (pss_one (SlX.ps_sl hs hv hw)), ⟨fo, H, sub H fo⟩, [], startD Nn.length (.opq x (sub H fo) :: ds), _, env_start ht tb (.cons (.opq (Grow.refl _)) rs), hm x (sub H fo), ?_⟩
  refine ⟨fun σ H' own δ E' q => ?_, fun _ _ _ _ _ _ _ _ q => q.elim, fun _ _ _ _ _ q => q.elim, fun _ _ _ _ _ q => q.elim, fun er cls dd σ H' own δ E' q r' => he er cls dd H' q E'.same (r'.less fun a h => List.mem_append_left _ h)⟩
  refine ⟨⟨fo, H, sub H fo⟩, own, δ, _, EK, ⟨E', fun er cls dd H'' ke s2 r2 => he er cls dd H'' ke (E'.same.trans s2) (r2.less fun a h => List.mem_append_left _ h)⟩, q, fun d y H1 ⟨h0, hp, pd⟩ s1 r1 => ?_⟩
  obtain ⟨sv, at0, v, rfl, rv⟩ := (E'.grow s1).slot 0 _ h0
  cases rv with
  | opq gr =>
  have hx1 : H1 x = some (.ins C dx []) := sub_le _ _ (gr _ _ here) 
  exact ⟨_, at0, x, C, dx, q0, [], 0, rfl, .inl ⟨hx1, rfl⟩, cl, t, hq d y H1 pd hp (E'.same.trans s1) (r1.clean.mono le)⟩
theorem fnI_star {p0 : Str} (F : Fun K x qual st f fd) (S : FnScope N ([p0] ++ [pv]) (defScope st)) (hb : ∀ us rest : List Value, us.length = [p0].length → bindArgs fd ⟨us ++ rest, []⟩ = (newTuple rest >>= fun t => pure ([p0].zip us ++ [(pv, t)])))
    (hC : PySem.W.nsIn K mainGlobals n = some (some (.ref C))) (cl : SlX.SCls K C) (t : SlX.Slot1 K C fl q0 0) (hst : defBody st = initOf st ++ [lastOf st])
    (hbody : ∀ (cdv : Value) (A : Around) (outer : List Env) (s : Shared) (H : Hp) (E : XK), GdOk A base → Room k (A.deeper (envOfC qual (defScope st) s.heap.objs.size f cdv)) →
      ∃ (slf : Str) (p p' pos : Pos) (value : Expr), lastOf st = .Assign [.Attribute (.Name slf p) fl p'] value pos ∧ DSs (cxOf (L2.CX P w) P w K mg base N qual (defScope st) f cdv A outer s H E) (Wof E) (initOf st) m ∧
        DE (cxOf (L2.CX P w) P w K mg base N qual (defScope st) f cdv A outer s H E) (Wof E) value false ma ∧ PE (cxOf (L2.CX P w) P w K mg base N qual (defScope st) f cdv A outer s H E) (.Name slf p) (tVar 0) ∧
        swapsWith value (some (.Attribute (.Name slf p) fl p')) pos.line (cxOf (L2.CX P w) P w K mg base N qual (defScope st) f cdv A outer s H E).env = pure false) : FnI' P w K mg base (k + 1) f n (mFunIS N.length m ma) := by
  refine fnP_star F S (sb := spI K n (mFunI 2 N.length m ma)) hb (fun vs H Q E h => ?_) fun cdv A outer s H vs Q E hG hr h => ?_
  · obtain ⟨fo, x, C, dx, ws, ds, PQ, EK, rfl, hx, ht, tb, hn, ha, rs, ⟨h1, hm⟩, hq, he⟩ := h
    have lv := rs.length
    refine ⟨[.ref x], ws, rfl, rfl, by omega, fun p hp => ?_⟩
    have g := (sub_same (ls := fo) (same_upd (o := .tup ws) hp).ob)
    have np : p ∉ fo := fun z => by
      obtain ⟨o, e, nn⟩ := ht p z
      rw [hp] at e; cases e
    refine ⟨fo, x, C, dx, [.ref p], [.tup ds], PQ, EK, rfl, hx, fun l hl => ?_, (same_upd hp).tb tb, hn, by rw [upd_ne (ne_of_none ha hp)]; exact ha, .cons (.tup (.of (by rw [sub_out np]; exact upd_same)) (by omega) (rs.mono g)) .nil, ⟨rfl, hm⟩, fun d v H' pd py s => hq d v H' pd py ((same_upd hp).trans s), fun er cls dd H' pd s => he er cls dd H' pd ((same_upd hp).trans s)⟩
    obtain ⟨o, e, nn⟩ := ht l hl
    exact ⟨o, by rw [upd_ne (ne_of_none e hp)]; exact e, nn⟩
  · obtain ⟨slf, p, p', pos, value, e1, hi, hv, hs, hw⟩ := hbody cdv A outer s H E hG hr
    rw [hst, e1]
    exact bodyI (Nn := N) rfl hC cl t hi hv hs hw h
end
section
variable {X : Cx} {W : WX} {e : Expr} {es : List Expr} {ba : Bool} {ma : TM} {la : LM} {mi : FM} {pos p sp : Pos} {n : Str} {k : Nat} {C f0 : Addr}
/-! ### C(e, ..) -/
def mMakeI (n : Str) (m : FM) (la : LM) : TM := fun δ Q E => la δ (fun ds => m ds (fun d => Q (.sob n d)) E) E
theorem makeI_sp {σ : L2.St} {H H1 : Hp} {F : Fm} {own : List Addr} {δ : List DV} {P : D → Prop} {EK : Er → Prop} {vs : List V} {ds : List D} {Q : VK} (hC : PySem.W.nsIn X.K mainGlobals n = some (some (.ref C))) (A : At X.K W σ H F own δ EK) (s01 : Same H H1) (rr : Reps X.K (sub H1 (F.ls0 ++ own)) vs ds)
    (m1 : mi ds (fun d => P (.sob n d)) EK) (q : ∀ d v H', P d → Same H H' → RV X.K F.ls0 (F.ls0 ++ own) H' false v d → Q v H') :
    ∀ x dx, H1 x = none → H1 dx = none → dx ≠ x → spI X.K n mi (V.ref x :: vs) (upd (upd H1 dx (.own x)) x (.ins C dx [])) (fun v H2 => v = .non ∧ Q (.ref x) H2) (fun cls dd H' => W cls dd σ H') := by
  intro x dx nx nd ne
  have A1 := A.on s01
  obtain ⟨sa, _⟩ := new_ins (K := X.K) (C := C) nx nd ne A1.env.trk
  have out : ∀ {b : Addr}, H1 b = none → b ∉ F.ls0 ++ own := fun {b} hb z => by
    obtain ⟨o, e, _⟩ := A1.env.trk b z
    rw [hb] at e
    cases e
  have hdx : upd (upd H1 dx (.own x)) x (.ins C dx []) dx = some (.own x) := by rw [upd_ne ne, upd_same]
  refine ⟨F.ls0 ++ own, x, C, dx, vs, ds, _, EK, rfl, out nx, fun l hl => ?_, sa.tb A1.tabs, hC, upd_same, rr.mono (sub_same sa.ob), m1, fun d v H' pd py s r => ⟨rfl, ?_⟩, fun er cls dd H' ke s re => A1.pass er cls dd H' ke (sa.trans s) re⟩
  · obtain ⟨o, e, nn⟩ := A1.env.trk l hl
    exact ⟨o, sa.ob.get l o e nn.1, nn⟩
  have hx' : H' x = some (.ins C dx []) := s _ _ upd_same
  have hd' : H' dx = some (.own x) := s _ _ hdx
  have s1 : Same H1 H' := sa.trans s
  have s2 : Same H1 (SlX.slH H' x C dx [some v]) := by
    unfold SlX.slH
    refine Same.put (o := .ins C dx []) (Same.put (o := .own x) s1 nd hd') nx ?_
    rw [upd_ne (fun z => ne z.symm)]
    exact hx'
  refine q (.sob n d) (.ref x) _ pd (s01.trans s2) (.cl (.sob hC (dx := dx) (v := v) ?_ ?_ ?_))
  · rw [sub_out (out nx)]
    unfold SlX.slH
    exact upd_same
  · rw [sub_out (out nd)]
    unfold SlX.slH
    rw [upd_ne ne, upd_same]
  · refine Rep.py_mono (fun b o hb ho => ?_) r py
    by_cases hin : b ∈ F.ls0 ++ own
    · rw [sub_in hin] at hb
      cases hb
    rw [sub_out hin] at hb ⊢
    have b1 : b ≠ x := fun z => by rw [z, hx'] at hb; cases hb; cases ho
    have b2 : b ≠ dx := fun z => by rw [z, hd'] at hb; cases hb; cases ho
    rw [SlX.slH_ne b1 b2]
    exact hb
theorem de_makeI (hC : PySem.W.nsIn X.K mainGlobals n = some (some (.ref C))) (M : Mk X.K C f0) (F : FnI' X.prog X.w X.K X.mg X.base k f0 n mi) (hG : GdOk X.A X.base) (hr : Room (k + 1) X.A) (tk : Takes X W) (hg : Gl X n) (gC : X.mg n = some (.ref C)) (ha : DA X W (e :: es) false la) (hdb : (n == ("__debug__" : Str)) = false := by decide)
    (he : starEach (e :: es) X.env = (false, eval e X.env) :: starEach es X.env := by rfl) (hpl : (backTo pos (starEach es X.env)).any (·.1) = false := by rfl) : DE X W (.Call (.Name n p) (e :: es) [] pos) false (mMakeI n mi la) := by
  refine ⟨fun pins s σ H Q I ⟨FF, own, δ, P, EK, A, m, q⟩ => ?_⟩
  refine wpAny_Call_Name_kw (ld_glob I hg gC ?_ hdb)
  refine PySem.W.callWith_K (h₀ := X.base) I.ok.mod.kin M.kp (thn (ha.run pos pins s σ H (fun vs H1 => ∃ ds, mi ds (fun d => P (.sob n d)) EK ∧ Same H H1 ∧ Reps X.K (sub H1 (FF.ls0 ++ own)) vs ds) I
    ⟨FF, own, δ, _, EK, A, m, fun ds vs H1 p1 s1 r1 => ⟨ds, p1, s1, r1.clean⟩⟩) fun us s1 ⟨vs, H1, I1, rv, ds, m1, s01, rr⟩ => ⟨I1.kIn, ?_⟩) he hpl
  exact run_new M F hG hr tk (E := fun cls dd H' => W cls dd σ H') (fun _ _ _ h => h) I1 rv (makeI_sp hC A s01 rr m1 q)
theorem de_makeI0 (hC : PySem.W.nsIn X.K mainGlobals n = some (some (.ref C))) (M : Mk X.K C f0) (F : FnI' X.prog X.w X.K X.mg X.base k f0 n mi) (hG : GdOk X.A X.base) (hr : Room (k + 1) X.A) (tk : Takes X W) (hg : Gl X n) (gC : X.mg n = some (.ref C)) (hdb : (n == ("__debug__" : Str)) = false := by decide) : DE X W (.Call (.Name n p) [] [] pos) false (mMakeI n mi mNil) := by
  refine ⟨fun pins s σ H Q I ⟨FF, own, δ, P, EK, A, m, q⟩ => ?_⟩
  refine wpAny_Call_Name_kw (ld_glob I hg gC ?_ hdb)
  exact PySem.W.callWith_K0 I.kIn M.kp (run_new (us := []) (vs := []) M F hG hr tk (E := fun cls dd H' => W cls dd σ H') (fun _ _ _ h => h) I .nil (makeI_sp hC A (Same.refl H) .nil m q))
/-- C(*e) -/
def mMakeIS (n : Str) (m : FM) (ma : TM) : TM := fun δ Q E => ma δ (fun d => ∃ ds, (d = .tup ds ∨ d = .list ds) ∧ m ds (fun d => Q (.sob n d)) E) E
end
end DL
set_option Elab.async false
set_option linter.all false
set_option maxRecDepth 100000
set_option maxHeartbeats 4000000
/-! DL116: C(*a, *b); isinstance, ==, in, len, str of instances with one slot. -/
namespace DL
open PySem PySem.Spec PyProof.Rows L2
variable [TabsC]
theorem evalArgs_two {M : Model} {A : Around} {E : Value → Shared → Prop} {s : Shared} {f : Value} {x y : Bool × Sem Value} {rest : List (Bool × Sem Value)} {Q : Args → Shared → Prop}
    (h : wpAny M A (spliced (x :: y :: rest)) (fun vs s' => Q ⟨vs, []⟩ s') E s) : wpAny M A (evalArgs f true (x :: y :: rest) []) Q E s := by
  unfold evalArgs
  obtain ⟨b, x⟩ := x
  cases b <;>
  · show wpAny M A (spliced ((_, x) :: y :: rest) >>= _) Q E s
    refine wpAny_bind (wpAny_mono h (fun vs s' h' => ?_) fun _ _ x => x)
    refine wpAny_holding ?_
    exact wpAny_bind (wpAny_pure (wpAny_bind (wpAny_pure (wpAny_pure h'))))
section
variable {X : Cx} {W : WX} {a b e : Expr} {es : List Expr} {ba bb : Bool} {ma mb : TM} {la : LM} {mi : FM} {pos p p2 sp sq : Pos} {n : Str} {k : Nat} {C f0 g : Addr} {m : FM}
/-- C(*a, *b) -/
theorem de_makeI2 (hC : PySem.W.nsIn X.K mainGlobals n = some (some (.ref C))) (M : Mk X.K C f0) (F : FnI' X.prog X.w X.K X.mg X.base k f0 n mi) (hG : GdOk X.A X.base) (hr : Room (k + 1) X.A) (tk : Takes X W) (hg : Gl X n) (gC : X.mg n = some (.ref C)) (ha : DA X W [.Starred a sp, .Starred b sq] false la) (hdb : (n == ("__debug__" : Str)) = false := by decide)
    (he : backTo pos (starEach [.Starred a sp, .Starred b sq] X.env) = [(true, (do let v ← eval a X.env; standAt pos; pure v)), (true, (do let v ← eval b X.env; standAt pos; pure v))] := by rfl) : DE X W (.Call (.Name n p) [.Starred a sp, .Starred b sq] [] pos) false (mMakeI n mi la) := by
  refine ⟨fun pins s σ H Q I ⟨FF, own, δ, P, EK, A, m, q⟩ => ?_⟩
  refine wpAny_Call_Name_kw (ld_glob I hg gC ?_ hdb)
  have z := ha.run pos pins s σ H (fun vs H1 => ∃ ds, mi ds (fun d => P (.sob n d)) EK ∧ Same H H1 ∧ Reps X.K (sub H1 (FF.ls0 ++ own)) vs ds) I ⟨FF, own, δ, _, EK, A, m, fun ds vs H1 p1 s1 r1 => ⟨ds, p1, s1, r1.clean⟩⟩
  rw [he] at z ⊢
  refine PySem.W.ks_call rfl (PySem.W.keeps_K M.kp) (evalArgs_two (thn z fun us s1 ⟨vs, H1, I1, rv, ds, m1, s01, rr⟩ => ⟨I1.kIn, ?_⟩))
  exact run_new M F hG hr tk (E := fun cls dd H' => W cls dd σ H') (fun _ _ _ h => h) I1 rv (makeI_sp hC A s01 rr m1 q)
end
/-! ### the kind of a value, instances with slots among them -/
def TyS (K : PySem.W.Frag) (H : Hp) (x : V) (t : Value) : Prop := TyX K H x t ∨ ∃ a C dx vs, x = .ref a ∧ t = .ref C ∧ SlX.Slt H a C dx vs ∧ SlX.SCls K C ∧ SlX.SIsi K C
theorem kit_ofS {X : Cx} {pins : List (Addr × Obj)} {σ : L2.St} {H : Hp} {s : Shared} {x : V} {u t : Value} (I : Inv X pins σ H s) (rx : RelV x u) (ty : TyS X.K H x t) : ∃ P : Heap → Prop, PySem.W.KitX X.K u t P ∧ P s.heap ∧ u ≠ .builtin "__main__.__loader__#opaque" := by
  rcases ty with ty | ⟨a, C, dx, vs, rfl, rfl, hs, hc, hi⟩
  · exact kit_of I rx ty
  · obtain rfl : u = Value.ref a := rx
    obtain ⟨sl, od, _, J, _⟩ := SlX.slt_inst I hs
    exact ⟨_, OwX.kitx_slt hc.ic (hc.get _) hi.ca hi.cn hi.ct hi.cm, J, fun z => nomatch z⟩
def rIsiS (K : PySem.W.Frag) : List V → Hp → VK → Prop := fun xs H Q => ∃ (x c : V) (t u : Value) (b : Bool), xs = [x, c] ∧ ClsV c u ∧ TyS K H x t ∧ PySem.W.kitOne K t u = some b ∧ Q (.bl b) H
theorem call_isiS {X : Cx} : CallR X (.builtin "isinstance") (rIsiS X.K) := by
  intro pins s σ H xs us Q I r h
  obtain ⟨x, c, t, u, b, rfl, k, ty, e, q⟩ := h
  obtain ⟨u1, u2, rfl, r1, r2⟩ := vals2 r
  have e2 := k.eq r2
  subst e2
  obtain ⟨P, Z, p, hx⟩ := kit_ofS I r1 ty
  exact PySem.W.kia_one Z I.kIn p e hx fun tk => ⟨.bl b, H, I.tok tk, rfl, q⟩
def okX (owns sls : List Str) (d : D) : Prop := okB owns d ∨ ∃ m v, d = .sob m v ∧ m ∈ sls
def isCX (n : Str) : D → Bool
  | .obj m _ => decide (m = n)
  | .sob m _ => decide (m = n)
  | _ => false
def fIsiX (owns sls : List Str) (n : Str) (d : D) (Q : D → Prop) : Prop := okX owns sls d ∧ Q (.bool (isCX n d))
def mIsiX (owns sls : List Str) (n : Str) (ma : TM) : TM := fun δ Q E => ma δ (fun d => fIsiX owns sls n d Q) E
structure KitSl (K : PySem.W.Frag) (owns sls : List Str) : Prop where
  two : ∀ (m n : Str) (Cm Cn : Addr), m ∈ owns ++ sls → n ∈ owns ++ sls → PySem.W.nsIn K mainGlobals m = some (some (.ref Cm)) → PySem.W.nsIn K mainGlobals n = some (some (.ref Cn)) → PySem.W.kitOne K (.ref Cm) (.ref Cn) = some (decide (m = n))
  ins : ∀ (m : Str) (Cm : Addr), m ∈ owns → PySem.W.nsIn K mainGlobals m = some (some (.ref Cm)) → InsTy K Cm
  sl : ∀ (m : Str) (Cm : Addr), m ∈ sls → PySem.W.nsIn K mainGlobals m = some (some (.ref Cm)) → SlX.SCls K Cm ∧ SlX.SIsi K Cm
theorem tyS_of {K : PySem.W.Frag} {fo ls : List Addr} {H : Hp} {y : V} {d : D} {owns sls : List Str} (ik : KitSl K owns sls) {bb : Bool} (r : RV K fo ls H bb y d) (ok : okX owns sls d) : (∃ t, d.tyn = some t ∧ TyS K H y (.type t)) ∨ ∃ m C, ((∃ fs, d = .obj m fs) ∨ ∃ v, d = .sob m v) ∧ m ∈ owns ++ sls ∧ PySem.W.nsIn K mainGlobals m = some (some (.ref C)) ∧ TyS K H y (.ref C) := by
  rcases ok with (hd | ⟨m', fs, rfl, hm'⟩) | ⟨m', v, rfl, hm'⟩
  · obtain ⟨t, ht⟩ := Option.isSome_iff_exists.mp hd
    exact .inl ⟨t, ht, .inl (tyx_rv r ht)⟩
  · obtain ⟨C', a, dx, vs, hC', rfl, h1, h2⟩ := r.obj
    have T := ik.ins m' C' hm' hC'
    exact .inr ⟨m', C', .inl ⟨_, rfl⟩, List.mem_append_left _ hm', hC', .inl (.base (.ins h1 T.cl T.fc T.sg T.tk T.mo))⟩
  · obtain ⟨C', a, dx, w, hC', rfl, h1, h2⟩ := r.sob
    have T := ik.sl m' C' hm' hC'
    exact .inr ⟨m', C', .inr ⟨_, rfl⟩, List.mem_append_right _ hm', hC', .inr ⟨a, C', dx, _, rfl, rfl, h1, T.1, T.2⟩⟩
section
variable {X : Cx} {W : WX} {a : Expr} {ba : Bool} {ma : TM} {n : Str} {C : Addr} {pos p p2 : Pos} {owns sls : List Str}
theorem de_isiX (hC : PySem.W.nsIn X.K mainGlobals n = some (some (.ref C))) (gC : X.mg n = some (.ref C)) (hcn : Gl X n) (hdb : (n == ("__debug__" : Str)) = false) (hk : kitAll X.K C = true) (ho : KitSl X.K owns sls) (hin : n ∈ owns ++ sls) (hg : Gl X "isinstance") (hm : X.mg "isinstance" = none) (ha : DE X W a ba ma)
    (hs : starEach [a, .Name n p2] X.env = (false, eval a X.env) :: starEach [.Name n p2] X.env := by rfl) (hs2 : starEach [.Name n p2] X.env = (false, eval (.Name n p2) X.env) :: starEach [] X.env := by rfl) (hpl : (backTo pos (starEach [.Name n p2] X.env)).any (·.1) = false := by rfl) :
    DE X W (.Call (.Name "isinstance" p) [a, .Name n p2] [] pos) false (mIsiX owns sls n ma) :=
  PE.imp (pe_callB call_isiS hg hm (by decide +kernel) (pa_cons ha (pa_cons (pe_glob (v := .ref C) hcn gC rfl (hd := hdb)) pa_nil hs2) hs) (by decide) (by decide) hs hpl) fun σ H Q ⟨F, own, δ, P, EK, A, m, q⟩ => ⟨F, own, δ, _, EK, A, m, fun d v H1 ⟨hd, m1⟩ s1 r1 => by
    have fin : ∀ t, TyS X.K H1 v t → PySem.W.kitOne X.K t (.ref C) = some (isCX n d) → rIsiS X.K [v, V.ref C] H1 Q := fun t ty hk => ⟨v, .ref C, t, .ref C, _, rfl, .own C, ty, hk, q _ _ H1 m1 s1 (.cl (.bool _))⟩
    rcases tyS_of ho r1 hd with ⟨t, ht, ty⟩ | ⟨m', C', hm, hin', hC', ty⟩
    · refine fin (.type t) ty ?_
      have z := of_decide_eq_true (List.all_eq_true.mp hk t (tyn_mem ht))
      rw [z]
      cases d <;> cases ht <;> rfl
    · refine fin (.ref C') ty ?_
      rw [ho.two m' n C' C hin' hin hC' hC]
      rcases hm with ⟨_, rfl⟩ | ⟨_, rfl⟩ <;> rfl⟩
end
section
variable {X : Cx} {W : WX} {a b e : Expr} {ba bb : Bool} {ma mb : TM} {n : Str} {C g : Addr} {k : Nat} {m : FM} {pos p : Pos} {owns sls : List Str} {FF : Fm} {own : List Addr}
def mEqS (n : Str) (owns sls : List Str) (neg : Bool) (m : FM) (ma mb : TM) : TM := fun δ Q E => ma δ (fun a => mb δ (fun b => ∃ v : D, a = .sob n v ∧ okX owns sls b ∧ m [a, b] (fun r => ∃ c, r = .bool c ∧ Q (.bool (neg ^^ c))) NoE) E) E
def mInS (n : Str) (neg : Bool) (m : FM) (ma mb : TM) : TM := fun δ Q E => ma δ (fun a => mb δ (fun b => ∃ fs : D, b = .sob n fs ∧ m [b, a] (fun r => ∃ c, r = .bool c ∧ Q (.bool (neg ^^ c))) NoE) E) E
def mLenS (n : Str) (m : FM) (ma : TM) : TM := fun δ Q E => ma δ (fun a => ∃ fs : D, a = .sob n fs ∧ m [a] (fun r => ∃ i : Int, r = .int i ∧ 0 ≤ i ∧ i < 2 ^ 62 ∧ Q r) NoE) E
def mStrS (n : Str) (m : FM) (ma : TM) : TM := fun δ Q E => ma δ (fun a => ∃ fs : D, a = .sob n fs ∧ m [a] (fun r => ∃ z, r = .str z ∧ Q r) NoE) E
end
end DL
set_option Elab.async false
set_option linter.all false
set_option maxRecDepth 100000
set_option maxHeartbeats 4000000
/-! DL117: classes with one slot: what of the text they must have; a docstring ahead of a body. -/
namespace DL
open PySem PySem.Spec PyProof.Rows L2
variable [TabsC]
theorem KitSl.of {K : PySem.W.Frag} {owns sls : List Str} (kits : KitOwn K owns) (tbl : List (Str × Addr)) (h1 : owns ++ sls = tbl.map (·.1)) (hns : ∀ p ∈ tbl, PySem.W.nsIn K mainGlobals p.1 = some (some (.ref p.2)))
    (h2 : (tbl.all fun p => tbl.all fun q => decide (PySem.W.kitOne K (.ref p.2) (.ref q.2) = some (decide (p.1 = q.1)))) = true)
    (hs : ∀ (m : Str) (Cm : Addr), m ∈ sls → PySem.W.nsIn K mainGlobals m = some (some (.ref Cm)) → SlX.SCls K Cm ∧ SlX.SIsi K Cm) : KitSl K owns sls := by
  refine ⟨fun m n Cm Cn hm hn em en => ?_, kits.ins, hs⟩
  rw [h1] at hm hn
  obtain ⟨p, hp, rfl⟩ := List.mem_map.mp hm
  obtain ⟨q, hq, rfl⟩ := List.mem_map.mp hn
  have ep := hns p hp
  have eq := hns q hq
  rw [ep] at em
  rw [eq] at en
  cases em
  cases en
  exact of_decide_eq_true (List.all_eq_true.mp (List.all_eq_true.mp h2 p hp) q hq)
end DL
set_option Elab.async false
set_option linter.all false
set_option maxRecDepth 100000
set_option maxHeartbeats 4000000
/-! DL118: a dict comprehension with two for-clauses (after HandS.Comp's list with two clauses and HandS.DictComp). -/
namespace DL
open PySem PySem.Spec PyProof.Rows L2
theorem dTurn2_out (kx vx t0 i0 t1 i1 : Expr) (ifs0 ifs1 : List Expr) (scope : Scope) (pos : Pos) (it acc : Value) (env : Env) :
    compTurn (.DictComp kx vx [⟨t0, i0, ifs0, 0⟩, ⟨t1, i1, ifs1, 0⟩] scope pos) 0 it acc env = (do
      standAt i0.pos
      match ← pyNext it with
      | none => pure (.done .next)
      | some v =>
        letOwnedTupleGo t0 it v
        assign t0 env v
        let mut ok := true
        for c in ifs0 do
          if ok then ok ← isTrue c env (eval c env)
        if ok then
          let x ← eval i1 env
          standAt i1.pos
          let x ← foldedSetIterable i1 env x
          let _ ← runOwn (.compStart (.DictComp kx vx [⟨t0, i0, ifs0, 0⟩, ⟨t1, i1, ifs1, 0⟩] scope pos) 1 (← holding [x] (pyIter x)) acc env) env
        again (.compLoop (.DictComp kx vx [⟨t0, i0, ifs0, 0⟩, ⟨t1, i1, ifs1, 0⟩] scope pos) 0 it acc env)) := by rfl
theorem dTurn2_in (kx vx t0 i0 t1 i1 : Expr) (ifs0 ifs1 : List Expr) (scope : Scope) (pos : Pos) (it : Value) (D : Addr) (env : Env) :
    compTurn (.DictComp kx vx [⟨t0, i0, ifs0, 0⟩, ⟨t1, i1, ifs1, 0⟩] scope pos) 1 it (.ref D) env = (do
      standAt i1.pos
      match ← pyNext it with
      | none => pure (.done .next)
      | some v =>
        letOwnedTupleGo t1 it v
        assign t1 env v
        let mut ok := true
        for c in ifs1 do
          if ok then ok ← isTrue c env (eval c env)
        if ok then
          (do
            let kv ← eval kx env
            let vv ← holding [kv] (eval vx env)
            standAt { kx.pos with endLine := vx.pos.endLine, endCol := vx.pos.endCol }
            holding [kv, vv] (dictSet D kv vv))
        again (.compLoop (.DictComp kx vx [⟨t0, i0, ifs0, 0⟩, ⟨t1, i1, ifs1, 0⟩] scope pos) 1 it (.ref D) env)) := by rfl
section
variable {prog : Program} {w : World} {A : Around} {R : Result → Shared → Prop} {s : Shared} {kx vx t0 i0 t1 i1 : Expr} {ifs0 ifs1 : List Expr} {scope : Scope} {pos : Pos} {it acc : Value} {env : Env}
/-- the loop of the first clause -/
theorem dLoop2_out (hs : ∀ x, foldedSetIterable i1 env x = pure x) (I : Nat → Shared → Prop)
    (turn : ∀ n s, I n s → wpAny (model prog w) A (pyNext it) (fun r s₁ => match r with
      | none => R (.ok .next) s₁
      | some v => wpAny (model prog w) A (letOwnedTupleGo t0 it v) (fun _ s₁' => wpAny (model prog w) A (assign t0 env v) (fun _ s₂ =>
          wpAny (model prog w) A (forIn ifs0 true fun c r => if r = true then do let ok ← isTrue c env (eval c env); pure (ForInStep.yield ok) else pure (ForInStep.yield r)) (fun ok s₃ =>
            if ok = true then wpAny (model prog w) A (eval i1 env) (fun x s₄ => wpAny (model prog w) A (pyIter x) (fun it1 s₅ =>
              codeAny (model prog w) A (.compStart (.DictComp kx vx [⟨t0, i0, ifs0, 0⟩, ⟨t1, i1, ifs1, 0⟩] scope pos) 1 it1 acc env) (fun r s' => match r with
                | .ok _ => ∃ m, m < n ∧ I m s'
                | .error _ => False) s₅) (notedBy (model prog w) A env fun e s' => R (.error e) s') s₄) (notedBy (model prog w) A env fun e s' => R (.error e) s') s₃
            else ∃ m, m < n ∧ I m s₃) (notedBy (model prog w) A env fun e s' => R (.error e) s') s₂) (notedBy (model prog w) A env fun e s' => R (.error e) s') s₁') (notedBy (model prog w) A env fun e s' => R (.error e) s') s₁) (notedBy (model prog w) A env fun e s' => R (.error e) s') s)
    (n : Nat) (h : I n s) :
    codeAny (model prog w) A (.compLoop (.DictComp kx vx [⟨t0, i0, ifs0, 0⟩, ⟨t1, i1, ifs1, 0⟩] scope pos) 0 it acc env) R s := by
  refine codeAny_loop rfl I (fun n s hI => ?_) n h
  show wpAny _ A ((compTurn (.DictComp kx vx [⟨t0, i0, ifs0, 0⟩, ⟨t1, i1, ifs1, 0⟩] scope pos) 0 it acc env).onRaise (fun x => do noteFrame x env; theTreesLotGoes x)) _ _ s
  refine wpAny_noted ?_
  rw [dTurn2_out]
  refine wpAny_bind (wpAny_standAt (wpAny_bind (wpAny_mono (turn n s hI) (fun r s₁ h₁ => ?_) fun _ _ h' => h')))
  cases r with
  | none => exact wpAny_pure h₁
  | some v =>
    refine wpAny_bind (wpAny_mono h₁ (fun _ s₁' h₁' => ?_) fun _ _ h' => h')
    refine wpAny_bind (wpAny_mono h₁' (fun _ s₂ h₂ => wpAny_bind (wpAny_mono h₂ (fun ok s₃ h₃ => ?_) fun _ _ h' => h')) fun _ _ h' => h')
    cases ok with
    | false => exact wpAny_pure ⟨rfl, h₃⟩
    | true =>
      refine wpAny_bind (wpAny_mono h₃ (fun x s₄ h₄ => ?_) fun _ _ h' => h')
      refine wpAny_bind (wpAny_standAt (wpAny_bind (wpAny_of_eq (hs x) (wpAny_bind (wpAny_holding (wpAny_mono h₄ (fun it1 s₅ h₅ => ?_) fun _ _ h' => h'))))))
      refine wpAny_bind (wpAny_runOwn ?_)
      rw [Around.mark_none]
      refine codeAny_mono h₅ fun r s' hr => ?_
      cases r with
      | ok f =>
        first
          | exact wpAny_pure ⟨rfl, hr⟩
          | exact wpAny_bind (wpAny_pure (wpAny_pure ⟨rfl, hr⟩))
      | error e => exact hr.elim
/-- the loop of the second -/
theorem dLoop2_in {D : Addr} (I : Nat → Shared → Prop)
    (turn : ∀ n s, I n s → wpAny (model prog w) A (pyNext it) (fun r s₁ => match r with
      | none => R (.ok .next) s₁
      | some v => wpAny (model prog w) A (letOwnedTupleGo t1 it v) (fun _ s₁' => wpAny (model prog w) A (assign t1 env v) (fun _ s₂ =>
          wpAny (model prog w) A (forIn ifs1 true fun c r => if r = true then do let ok ← isTrue c env (eval c env); pure (ForInStep.yield ok) else pure (ForInStep.yield r)) (fun ok s₃ =>
            if ok = true then wpAny (model prog w) A (eval kx env) (fun kv s₄ => wpAny (model prog w) A (eval vx env) (fun vv s₅ =>
              wpAny (model prog w) A (dictSet D kv vv) (fun _ s₆ => ∃ m, m < n ∧ I m s₆) (notedBy (model prog w) A env fun e s' => R (.error e) s') s₅) (notedBy (model prog w) A env fun e s' => R (.error e) s') s₄) (notedBy (model prog w) A env fun e s' => R (.error e) s') s₃
            else ∃ m, m < n ∧ I m s₃) (notedBy (model prog w) A env fun e s' => R (.error e) s') s₂) (notedBy (model prog w) A env fun e s' => R (.error e) s') s₁') (notedBy (model prog w) A env fun e s' => R (.error e) s') s₁) (notedBy (model prog w) A env fun e s' => R (.error e) s') s)
    (n : Nat) (h : I n s) :
    codeAny (model prog w) A (.compLoop (.DictComp kx vx [⟨t0, i0, ifs0, 0⟩, ⟨t1, i1, ifs1, 0⟩] scope pos) 1 it (.ref D) env) R s := by
  refine codeAny_loop rfl I (fun n s hI => ?_) n h
  show wpAny _ A ((compTurn (.DictComp kx vx [⟨t0, i0, ifs0, 0⟩, ⟨t1, i1, ifs1, 0⟩] scope pos) 1 it (.ref D) env).onRaise (fun x => do noteFrame x env; theTreesLotGoes x)) _ _ s
  refine wpAny_noted ?_
  rw [dTurn2_in]
  refine wpAny_bind (wpAny_standAt (wpAny_bind (wpAny_mono (turn n s hI) (fun r s₁ h₁ => ?_) fun _ _ h' => h')))
  cases r with
  | none => exact wpAny_pure h₁
  | some v =>
    refine wpAny_bind (wpAny_mono h₁ (fun _ s₁' h₁' => ?_) fun _ _ h' => h')
    refine wpAny_bind (wpAny_mono h₁' (fun _ s₂ h₂ => wpAny_bind (wpAny_mono h₂ (fun ok s₃ h₃ => ?_) fun _ _ h' => h')) fun _ _ h' => h')
    cases ok with
    | false => exact wpAny_pure ⟨rfl, h₃⟩
    | true =>
      exact wpAny_bind (wpAny_bind (wpAny_mono h₃ (fun kv s₄ h₄ => wpAny_bind (wpAny_holding (wpAny_mono h₄ (fun vv s₅ h₅ => wpAny_bind (wpAny_standAt (wpAny_holding (wpAny_mono h₅ (fun _ s₆ h₆ => wpAny_pure ⟨rfl, h₆⟩) fun _ _ h' => h')))) fun _ _ h' => h'))) fun _ _ h' => h'))
/-- the second clause's start -/
theorem dStart1_ok (h0 : codeAny (model prog w) A (.compLoop (.DictComp kx vx [⟨t0, i0, ifs0, 0⟩, ⟨t1, i1, ifs1, 0⟩] scope pos) 1 it acc env) R s)
    (h : wpAny (model prog w) A (pyIter it) (fun it' s' => codeAny (model prog w) A (.compLoop (.DictComp kx vx [⟨t0, i0, ifs0, 0⟩, ⟨t1, i1, ifs1, 0⟩] scope pos) 1 it' acc env) R s')
      (notedBy (model prog w) A env fun x s' => R (.error x) s') s) :
    codeAny (model prog w) A (.compStart (.DictComp kx vx [⟨t0, i0, ifs0, 0⟩, ⟨t1, i1, ifs1, 0⟩] scope pos) 1 it acc env) R s := by
  refine codeAny_of_tree ?_
  show wpAny _ _ ((compStart (.DictComp kx vx [⟨t0, i0, ifs0, 0⟩, ⟨t1, i1, ifs1, 0⟩] scope pos) 1 it acc env).onRaise (fun x => do noteFrame x env; standAt theWindowsPlace)) _ _ s
  refine wpAny_notedAt ?_
  unfold compStart
  show wpAny _ _ (ask >>= _) _ _ s
  refine wpAny_bind (wpAny_askSetting (wpAny_ite ?_))
  split
  · first
      | exact wpAny_bind (wpAny_pure (wpAny_pure (And.intro rfl h0)))
      | exact wpAny_pure (And.intro rfl h0)
  · first
      | exact wpAny_bind (wpAny_rule (wpAny_bind (wpAny_standAt (wpAny_bind (wpAny_mono h (fun it' s' h' => wpAny_pure (And.intro rfl h')) fun _ _ x => x)))))
      | (refine wpAny_bind (wpAny_rule ?_); show wpAny _ _ (standAt i1.pos >>= _) _ _ s; exact wpAny_bind (wpAny_standAt (wpAny_bind (wpAny_mono h (fun it' s' h' => wpAny_pure (And.intro rfl h')) fun _ _ x => x))))
end
section
variable {X : Cx}
/-- {k: v for tg in iter if .. for tg1 in iter1 if ..}: behind the first clause's store and tests the second source's own loop, from which Nx is reached. vs: the block's names; vs1: those of the second target -/
def tDc2 (wi : TI) (g : TG) (tt : TT) (wi1 : TI) (g1 : TG) (tt1 : TT) (tk tv : TE) (vs vs1 : List Nat) : TE := fun σ H Q => wi σ H fun J H1 => ∀ D, H1 D = none → ∃ W : Nat → Nat → Hp → Prop, (∃ m, W 0 m (upd H1 D (.dK []))) ∧ ∀ i m H, W i m H →
  (J.stop i H ∧ Q (.ref D) H) ∨ (J.go i H ∧ ∃ Nx : Hp → Prop, (∀ H', Nx H' → ∃ m', m' < m ∧ W (i + 1) m' H') ∧ ∀ x H', J.yld i H x H' → g x (L2.wipe σ vs) H' fun σ2 H2 => L2.wipe σ2 vs = L2.wipe σ vs ∧ tt σ2 H2 fun b H3 =>
    if b = true then wi1 σ2 H3 fun J1 H4 => ∃ W1 : Nat → Nat → Hp → Prop, (∃ m, W1 0 m H4) ∧ ∀ j k H, W1 j k H →
      (J1.stop j H ∧ Nx H) ∨ (J1.go j H ∧ ∃ Nx1 : Hp → Prop, (∀ H', Nx1 H' → ∃ k', k' < k ∧ W1 (j + 1) k' H') ∧ ∀ x H', J1.yld j H x H' → g1 x (L2.wipe σ2 vs1) H' fun σ3 H5 => L2.wipe σ3 vs1 = L2.wipe σ2 vs1 ∧ tt1 σ3 H5 fun b H6 =>
        if b = true then tk σ3 H6 fun y H7 => tv σ3 H7 fun z H8 => ∃ kvs k, y = kV k ∧ H8 D = some (.dK kvs) ∧ kvs.length < sizeLine ∧ Nx1 (upd H8 D (.dK (putK kvs k z))) else Nx1 H6)
    else Nx H3)
theorem dc2_core {pins : List (Addr × Obj)} {s : Shared} {σ : L2.St} {H : Hp} {Q : VK} {kx vx tg iter tg1 iter1 : Expr} {ifs ifs1 : List Expr} {scope : Scope} {own : List (Str × Nat)} {vs1 : List Nat} {pos pos' : Pos} {wi wi1 : TI} {g g1 : TG} {tt tt1 : TT} {tk tv : TE} {use : Option (Value → Sem Unit)} {Qf : Value → Shared → Prop}
    (hc : X.calm = true) (hN : X.N.Nodup) (I : Inv X pins σ H s) (hi : PI X tg iter wi) (ok : BlkOk X.N X.env.scope scope own) (hv : ∀ i ∈ vs1, i ∈ own.map (·.2))
    (hg : ∀ (s : Shared) (H : Hp) (C : Addr) (cl : List (Str × Addr)) (fp : List Addr), PG (X.blk s H scope (compEnvC scope cl C X.env) fp) tg g) (ht : ∀ (s : Shared) (H : Hp) (C : Addr) (cl : List (Str × Addr)) (fp : List Addr), PTs (X.blk s H scope (compEnvC scope cl C X.env) fp) ifs tt)
    (hk : ∀ (s : Shared) (H : Hp) (C : Addr) (cl : List (Str × Addr)) (fp : List Addr), PE (X.blk s H scope (compEnvC scope cl C X.env) fp) kx tk) (he : ∀ (s : Shared) (H : Hp) (C : Addr) (cl : List (Str × Addr)) (fp : List Addr), PE (X.blk s H scope (compEnvC scope cl C X.env) fp) vx tv) (hs : ∀ x, foldedSetIterable iter X.env x = pure x)
    (hi1 : ∀ (s : Shared) (H : Hp) (C : Addr) (cl : List (Str × Addr)) (fp : List Addr), PI (X.blk s H scope (compEnvC scope cl C X.env) fp) tg1 iter1 wi1)
    (hg1 : ∀ (s : Shared) (H : Hp) (C : Addr) (cl : List (Str × Addr)) (fp : List Addr), PG (X.blk s H scope (compEnvC scope cl C X.env) fp) tg1 g1)
    (ht1 : ∀ (s : Shared) (H : Hp) (C : Addr) (cl : List (Str × Addr)) (fp : List Addr), PTs (X.blk s H scope (compEnvC scope cl C X.env) fp) ifs1 tt1)
    (hs1 : ∀ env x, foldedSetIterable iter1 env x = pure x)
    (h : tDc2 wi g tt wi1 g1 tt1 tk tv (own.map (·.2)) vs1 σ H Q)
    (hRR : ∀ D C s' m H', Inv X pins σ H' s' → Q (.ref D) H' → s'.heap.Ns C m → FpOk X pins H' C → compPost (model X.prog X.w) X.A X.xe use Qf (.ref D) C (.ok .next) s') :
    wpAny (model X.prog X.w) X.A (comprehension (.DictComp kx vx [⟨tg, iter, ifs, 0⟩, ⟨tg1, iter1, ifs1, 0⟩] scope pos) scope X.env pos' newDict false (eval iter X.env) use) Qf X.xe s := by
  have hfree : ∀ y ∈ scope.names, y.2 = .free → ∃ c, X.env.cells.lookup y.1 = some c := fun y hy e => by
    rcases ok.free y hy e with k | k
    · exact I.ok.has _ (.inl k)
    · exact I.ok.has _ (.inr k)
  refine wpAny_comprehension_free (use := use) rfl hs (closure_ok hfree) ok.kind (fun y hy e => by rw [ok.uniq y hy, e])
    (thn (hi.run pins s σ H _ I h) fun xv s1 hx => thn hx fun itv s2 h2 => ?_)
  obtain ⟨it, fp, tn, J, H2, e, I2, T, st2, f2, q⟩ := h2
  subst e
  refine wpAny_newObj_type (newEnv_comp ?_)
  generalize hD : s2.heap.objs.size = D
  have hDn : H2 D = none := I2.hok.fresh (Nat.le_of_eq hD)
  obtain ⟨W, ⟨m0, w0⟩, turn⟩ := q D hDn
  -- the new list
  generalize hs3 : ({ s2 with heap := s2.heap.push { cls := .type "dict", data := .dict #[] } } : Shared) = s3
  have I3 : Inv X pins σ (upd H2 D (.dK [])) s3 := by
    rw [← hs3]
    refine I2.laid (t' := s2.toks) (fun b o e => Heap.get?_push_of_some _ e) (Nat.le_of_eq hD) ?_
    rw [← hD]
    exact dk_empty s2.heap I2.big
  have h3 : s3.heap = s2.heap.push { cls := .type "dict", data := .dict #[] } := by rw [← hs3]
  have sz : ∀ b ∈ fp, b < s2.heap.objs.size := fun b hb => by
    obtain ⟨o, e, _⟩ := T.obj _ _ st2 b hb
    exact Heap.lt_size e
  have f3 : ∀ b ∈ fp, FpOk X pins (upd H2 D (.dK [])) b ∧ b < s3.heap.objs.size := fun b hb => by
    have hlt := sz b hb
    refine ⟨⟨?_, (f2 b hb).2⟩, by rw [h3, Heap.size_push]; exact Nat.lt_succ_of_lt hlt⟩
    rw [upd_ne (by rw [← hD]; exact Nat.ne_of_lt hlt)]
    exact (f2 b hb).1
  have st3 : tn 0 s3.heap := T.keep _ _ _ st2 fun b _ o e => by rw [h3]; exact Heap.get?_push_of_some _ e
  have I4 := block_start I3 ok hN f3
  have pg := hg s3 (upd H2 D (.dK [])) s3.heap.objs.size (cellsFrom (s3.heap.objs.size + 1) scope.names (cloFrom X.env.cells scope.names [])) fp
  have pt := ht s3 (upd H2 D (.dK [])) s3.heap.objs.size (cellsFrom (s3.heap.objs.size + 1) scope.names (cloFrom X.env.cells scope.names [])) fp
  have pk := hk s3 (upd H2 D (.dK [])) s3.heap.objs.size (cellsFrom (s3.heap.objs.size + 1) scope.names (cloFrom X.env.cells scope.names [])) fp
  have pe := he s3 (upd H2 D (.dK [])) s3.heap.objs.size (cellsFrom (s3.heap.objs.size + 1) scope.names (cloFrom X.env.cells scope.names [])) fp
  have pi1 := hi1 s3 (upd H2 D (.dK [])) s3.heap.objs.size (cellsFrom (s3.heap.objs.size + 1) scope.names (cloFrom X.env.cells scope.names [])) fp
  have pg1 := hg1 s3 (upd H2 D (.dK [])) s3.heap.objs.size (cellsFrom (s3.heap.objs.size + 1) scope.names (cloFrom X.env.cells scope.names [])) fp
  have pt1 := ht1 s3 (upd H2 D (.dK [])) s3.heap.objs.size (cellsFrom (s3.heap.objs.size + 1) scope.names (cloFrom X.env.cells scope.names [])) fp
  show codeAny _ _ (.compStart (.DictComp kx vx [⟨tg, iter, ifs, 0⟩, ⟨tg1, iter1, ifs1, 0⟩] scope pos) 0 (.ref it) (.ref D) (compEnvC scope (cellsFrom (s3.heap.objs.size + 1) scope.names (cloFrom X.env.cells scope.names [])) s3.heap.objs.size X.env)) (compPost (model X.prog X.w) X.A X.xe use Qf (.ref D) s3.heap.objs.size) { s3 with heap := pushCells (s3.heap.push { cls := .type "dict", data := .dict #[] }) scope.names }
  have nfp : ∀ b ∈ fp, (upd H2 D (.dK [])) b = none := fun b hb => (f3 b hb).1.1
  generalize hce : compEnvC scope (cellsFrom (s3.heap.objs.size + 1) scope.names (cloFrom X.env.cells scope.names [])) s3.heap.objs.size X.env = ce at I4 pg pt pk pe pi1 pg1 pt1 ⊢
  have cL : ce.locals = s3.heap.objs.size := by subst hce; rfl
  generalize hH3 : upd H2 D (.dK []) = H3 at I3 I4 pg pt pk pe pi1 pg1 pt1 w0 nfp f3
  generalize hs4 : ({ s3 with heap := pushCells (s3.heap.push { cls := .type "dict", data := .dict #[] }) scope.names } : Shared) = s4 at I4 ⊢
  have st4 : tn 0 s4.heap := T.keep _ _ _ st3 fun b _ o e => by rw [← hs4]; exact pushCells_keeps _ _ _ _ (Heap.get?_push_of_some _ e)
  have stat : ∀ {σ' : L2.St} {H' : Hp} {s' : Shared}, Inv (X.blk s3 H3 scope ce fp) [] σ' H' s' → (∀ b ∈ fp, H' b = none) → ∀ b ∈ fp, FpOk (X.blk s3 H3 scope ce fp) [] H' b := fun {σ' H' s'} I' hn b hb =>
    ⟨hn b hb, (I'.ok.exf b hb).1, I'.ok.exfs b hb, .inl hb, fun x c e => (I'.ok.exf b hb).2 x c e, fun p hp => absurd (show p ∈ ([] : List (Addr × Obj)) ++ [] from hp) (by simp)⟩
  have loop : codeAny (model X.prog X.w) X.A (.compLoop (.DictComp kx vx [⟨tg, iter, ifs, 0⟩, ⟨tg1, iter1, ifs1, 0⟩] scope pos) 0 (.ref it) (.ref D) ce) (compPost (model X.prog X.w) X.A X.xe use Qf (.ref D) s3.heap.objs.size) s4 := by
    refine dLoop2_out (hs1 ce) (fun n s' => ∃ i H', Inv (X.blk s3 H3 scope ce fp) [] (L2.wipe σ (own.map (·.2))) H' s' ∧ tn i s'.heap ∧ (∀ b ∈ fp, H' b = none) ∧ W i n H') ?_ m0 ⟨0, H3, I4, st4, nfp, w0⟩
    rintro n s5 ⟨i, H5, I5, st5, n5, w5⟩
    rcases turn i n H5 w5 with ⟨stop, qq⟩ | ⟨go, Nx, hNx, step⟩
    · have td := T.done (X.blk s3 H3 scope ce fp) rfl rfl rfl hc i [] s5 _ H5 (fun _ _ => False) I5 (stat I5 n5) st5 stop
      refine thnF td fun r s6 ⟨hr, I6⟩ => ?_
      subst hr
      -- back in the def's context
      have I7 : Inv X pins σ H5 s6 := I3.call' (ch := fp) I6.os I6.base I6.hok I6.bare fun b hb => ⟨(f3 b hb).1.2.2.2.1, (f3 b hb).1.2.1, (f3 b hb).1.2.2.2.2.1, (f3 b hb).1.2.2.2.2.2⟩
      have nC : H5 s3.heap.objs.size = none := by
        have z : H5 ce.locals = none := I6.free
        rw [cL] at z
        exact z
      obtain ⟨m, hn, _⟩ := I6.loc
      have hn : s6.heap.Ns ce.locals m := hn
      rw [cL] at hn
      exact hRR D s3.heap.objs.size s6 m H5 I7 qq hn (I3.fpOk (Nat.le_refl _) nC)
    · have ti := T.item (X.blk s3 H3 scope ce fp) rfl rfl rfl hc i [] s5 _ H5 (fun _ _ => False) I5 (stat I5 n5) st5 go
      refine thnF ti fun r s6 ⟨u, hr, h6⟩ => ?_
      subst hr
      refine thnF h6 fun _ s7 ⟨x, H7, I7, r7, y7, st7, n7⟩ => ?_
      have I7' := I7.pinned (stat I7 n7) (T.obj _ _ st7)
      refine thnF (pg.run _ s7 _ H7 x u _ I7' r7 (step x H7 y7)) fun _ s8 ⟨σ8, H8, I8, hw8, q8⟩ => ?_
      refine thnF (pt.run _ s8 σ8 H8 _ I8 q8) fun b s9 ⟨H9, I9, q9⟩ => ?_
      -- the turn's end, from any slots that know what the block knew at its start
      have fin : ∀ {σ9 : L2.St} {s' : Shared} {H' : Hp}, Inv (X.blk s3 H3 scope ce fp) ([] ++ pinsAt fp s7.heap) σ9 H' s' → (L2.wipe σ (own.map (·.2))).length = σ9.length → (∀ (j : Nat) v, (L2.wipe σ (own.map (·.2)))[j]? = some (some v) → σ9[j]? = some (some v)) → Nx H' →
          ∃ m, m < n ∧ ∃ i H', Inv (X.blk s3 H3 scope ce fp) [] (L2.wipe σ (own.map (·.2))) H' s' ∧ tn i s'.heap ∧ (∀ b ∈ fp, H' b = none) ∧ W i m H' := fun {σ9 s' H'} I' hl hk nx => by
        obtain ⟨m', hm, w'⟩ := hNx H' nx
        have pin' : ∀ b ∈ fp, ∀ o, s7.heap.get? b = some o → s'.heap.get? b = some o ∧ H' b = none := fun b hb o e =>
          let z := I'.pin (b, o) (List.mem_append_right _ (List.mem_append_right _ (mem_pinsAt hb e)))
          ⟨z.1, z.2.1⟩
        refine ⟨m', hm, i + 1, H', (I'.unpinned (pins := [])).weak hl hk, T.keep _ _ _ st7 fun b hb o e => (pin' b hb o e).1, fun b hb => ?_, w'⟩
        obtain ⟨o, e, _⟩ := T.obj _ _ st7 b hb
        exact (pin' b hb o e).2
      have hl8 : (L2.wipe σ (own.map (·.2))).length = σ8.length := by rw [← hw8, wipe_length]
      have hk8 : ∀ (j : Nat) v, (L2.wipe σ (own.map (·.2)))[j]? = some (some v) → σ8[j]? = some (some v) := fun j v e => by
        rw [← hw8] at e
        exact (wipe_some e).1
      have hk9 : ∀ (j : Nat) v, (L2.wipe σ (own.map (·.2)))[j]? = some (some v) → (L2.wipe σ8 vs1)[j]? = some (some v) := fun j v e => by
        rw [← hw8] at e
        obtain ⟨e1, e2⟩ := wipe_some e
        rw [wipe_out fun z => e2 (hv j z)]
        exact e1
      cases b with
      | false =>
        simp only [Bool.false_eq_true, if_false] at q9 ⊢
        exact fin I9 hl8 hk8 q9
      | true =>
        simp only [if_true] at q9 ⊢
        refine thnF (pi1.run _ s9 σ8 H9 _ I9 q9) fun xv s10 hx => thnF hx fun itv s11 h11 => ?_
        obtain ⟨it1, fp1, tn1, J1, H11, e1, I11, T1, st11, f11, W1, ⟨m1, w1⟩, turn1⟩ := h11
        subst e1
        -- the inner loop
        have stat1 : ∀ {H' : Hp}, (∀ b ∈ fp1, H' b = none) → ∀ b ∈ fp1, FpOk (X.blk s3 H3 scope ce fp) ([] ++ pinsAt fp s7.heap) H' b := fun hn b hb => ⟨hn b hb, (f11 b hb).2⟩
        have loop1 : codeAny (model X.prog X.w) X.A (.compLoop (.DictComp kx vx [⟨tg, iter, ifs, 0⟩, ⟨tg1, iter1, ifs1, 0⟩] scope pos) 1 (.ref it1) (.ref D) ce)
            (fun r s' => match r with
              | .ok _ => ∃ m, m < n ∧ ∃ i H', Inv (X.blk s3 H3 scope ce fp) [] (L2.wipe σ (own.map (·.2))) H' s' ∧ tn i s'.heap ∧ (∀ b ∈ fp, H' b = none) ∧ W i m H'
              | .error _ => False) s11 := by
          refine dLoop2_in (fun k s' => ∃ j H', Inv (X.blk s3 H3 scope ce fp) ([] ++ pinsAt fp s7.heap) (L2.wipe σ8 vs1) H' s' ∧ tn1 j s'.heap ∧ (∀ b ∈ fp1, H' b = none) ∧ W1 j k H') ?_ m1 ⟨0, H11, I11.weak (wipe_length _ _) (fun j v e => (wipe_some e).1), st11, fun b hb => (f11 b hb).1, w1⟩
          rintro k s12 ⟨j, H12, I12, st12, n12, w12⟩
          rcases turn1 j k H12 w12 with ⟨stop1, nx1⟩ | ⟨go1, Nx1, hNx1, step1⟩
          · refine thnF (T1.done (X.blk s3 H3 scope ce fp) rfl rfl rfl hc j _ s12 (L2.wipe σ8 vs1) H12 (fun _ _ => False) I12 (stat1 n12) st12 stop1) fun r s13 ⟨hr, I13⟩ => ?_
            subst hr
            exact fin I13 (hl8.trans (wipe_length σ8 vs1).symm) hk9 nx1
          · refine thnF (T1.item (X.blk s3 H3 scope ce fp) rfl rfl rfl hc j _ s12 (L2.wipe σ8 vs1) H12 (fun _ _ => False) I12 (stat1 n12) st12 go1) fun r s13 ⟨u1, hr, h13⟩ => ?_
            subst hr
            refine thnF h13 fun _ s14 ⟨x1, H14, I14, r14, y14, st14, n14⟩ => ?_
            have I14' := I14.pinned (stat1 n14) (T1.obj _ _ st14)
            refine thnF (pg1.run _ s14 (L2.wipe σ8 vs1) H14 x1 u1 _ I14' r14 (step1 x1 H14 y14)) fun _ s15 ⟨σ15, H15, I15, hw15, q15⟩ => ?_
            refine thnF (pt1.run _ s15 σ15 H15 _ I15 q15) fun b1 s16 ⟨H16, I16, q16⟩ => ?_
            have fin1 : ∀ {s' : Shared} {H' : Hp}, Inv (X.blk s3 H3 scope ce fp) (([] ++ pinsAt fp s7.heap) ++ pinsAt fp1 s14.heap) σ15 H' s' → Nx1 H' → ∃ m, m < k ∧ ∃ j H', Inv (X.blk s3 H3 scope ce fp) ([] ++ pinsAt fp s7.heap) (L2.wipe σ8 vs1) H' s' ∧ tn1 j s'.heap ∧ (∀ b ∈ fp1, H' b = none) ∧ W1 j m H' := fun {s' H'} I' nx => by
              obtain ⟨m', hm, w'⟩ := hNx1 H' nx
              have pin' : ∀ b ∈ fp1, ∀ o, s14.heap.get? b = some o → s'.heap.get? b = some o ∧ H' b = none := fun b hb o e =>
                let z := I'.pin (b, o) (List.mem_append_right _ (List.mem_append_right _ (mem_pinsAt hb e)))
                ⟨z.1, z.2.1⟩
              refine ⟨m', hm, j + 1, H', I'.unpinned.weak (by rw [← hw15, wipe_length]) (fun j v e => by rw [← hw15] at e; exact (wipe_some e).1), T1.keep _ _ _ st14 fun b hb o e => (pin' b hb o e).1, fun b hb => ?_, w'⟩
              obtain ⟨o, e, _⟩ := T1.obj _ _ st14 b hb
              exact (pin' b hb o e).2
            cases b1 with
            | false =>
              simp only [Bool.false_eq_true, if_false] at q16 ⊢
              exact fin1 I16 q16
            | true =>
              simp only [if_true] at q16 ⊢
              refine thnF (pk.run _ s16 σ15 H16 _ I16 q16) fun z s17 ⟨yk, H17, I17, r17, q17⟩ => ?_
              refine thnF (pe.run _ s17 σ15 H17 _ I17 q17) fun z2 s18 ⟨yv, H18, I18, r18, kvs, k0, ek, hD18, hz18, nx⟩ => ?_
              subst ek
              exact d_dictSet (X := X.blk s3 H3 scope ce fp) I18 hD18 hz18 r17 r18 fun s19 I19 => fin1 I19 nx
        exact dStart1_ok loop1 (T1.self X.A 0 _ _ _ st11 loop1)
  exact codeAny_compStart_dict loop (T.self X.A 0 _ _ _ st4 loop)
/-- as a value -/
theorem pe_dc2 {kx vx tg iter tg1 iter1 : Expr} {ifs ifs1 : List Expr} {scope : Scope} {own : List (Str × Nat)} {vs1 : List Nat} {pos : Pos} {wi wi1 : TI} {g g1 : TG} {tt tt1 : TT} {tk tv : TE} (hc : X.calm = true) (hN : X.N.Nodup) (hi : PI X tg iter wi) (ok : BlkOk X.N X.env.scope scope own) (hv : ∀ i ∈ vs1, i ∈ own.map (·.2))
    (hg : ∀ (s : Shared) (H : Hp) (C : Addr) (cl : List (Str × Addr)) (fp : List Addr), PG (X.blk s H scope (compEnvC scope cl C X.env) fp) tg g) (ht : ∀ (s : Shared) (H : Hp) (C : Addr) (cl : List (Str × Addr)) (fp : List Addr), PTs (X.blk s H scope (compEnvC scope cl C X.env) fp) ifs tt)
    (hi1 : ∀ (s : Shared) (H : Hp) (C : Addr) (cl : List (Str × Addr)) (fp : List Addr), PI (X.blk s H scope (compEnvC scope cl C X.env) fp) tg1 iter1 wi1)
    (hg1 : ∀ (s : Shared) (H : Hp) (C : Addr) (cl : List (Str × Addr)) (fp : List Addr), PG (X.blk s H scope (compEnvC scope cl C X.env) fp) tg1 g1) (ht1 : ∀ (s : Shared) (H : Hp) (C : Addr) (cl : List (Str × Addr)) (fp : List Addr), PTs (X.blk s H scope (compEnvC scope cl C X.env) fp) ifs1 tt1)
    (hk : ∀ (s : Shared) (H : Hp) (C : Addr) (cl : List (Str × Addr)) (fp : List Addr), PE (X.blk s H scope (compEnvC scope cl C X.env) fp) kx tk) (he : ∀ (s : Shared) (H : Hp) (C : Addr) (cl : List (Str × Addr)) (fp : List Addr), PE (X.blk s H scope (compEnvC scope cl C X.env) fp) vx tv) (hs : ∀ x, foldedSetIterable iter X.env x = pure x := by intro _; rfl) (hs1 : ∀ env x, foldedSetIterable iter1 env x = pure x := by intro _ _; rfl) :
    PE X (.DictComp kx vx [⟨tg, iter, ifs, 0⟩, ⟨tg1, iter1, ifs1, 0⟩] scope pos) (tDc2 wi g tt wi1 g1 tt1 tk tv (own.map (·.2)) vs1) := by
  refine ⟨fun pins s σ H Q I h => ?_⟩
  rw [arm_eval_DictComp]
  refine dc2_core hc hN I hi ok hv hg ht hk he hs hi1 hg1 ht1 hs1 h fun D C s' m H' I' q hn f => ⟨m, hn, fun h'' sb => ?_⟩
  obtain ⟨f0, f1, f2, f3, f4, f5⟩ := f
  exact ⟨.ref D, H', I'.turned (t' := s'.toks) (fun b o hb e => (sb.2 b hb).trans e) f0 f1 f3 f4 f5, rfl, q⟩
end
variable [TabsC]
theorem wipeD_m {δ : List DV} {j : Nat} {d : D} : ∀ {vs : List Nat}, (wipeD δ vs)[j]? = some (.m d) → δ[j]? = some (.m d)
  | [], h => h
  | v :: vs, h => by
    have h : ((wipeD δ vs).set v .u)[j]? = some (.m d) := h
    by_cases e : v = j
    · subst e
      rw [List.getElem?_set] at h
      simp only [if_true] at h
      split at h <;> cases h
    · rw [List.getElem?_set_ne e] at h
      exact wipeD_m h
/-- a target sets values alone -/
def KeepM (g : GM) : Prop := ∀ d δ P, g d δ P → g d δ (fun δ' => P δ' ∧ ∀ (j : Nat) (dj : D), δ'[j]? = some (.m dj) → δ[j]? = some (.m dj))
def KeepMs (g : GMs) : Prop := ∀ ds δ P, g ds δ P → g ds δ (fun δ' => P δ' ∧ ∀ (j : Nat) (dj : D), δ'[j]? = some (.m dj) → δ[j]? = some (.m dj))
structure KG (g : GM) : Prop where
  keep : KeepM g
  mono : ∀ d δ (P P' : List DV → Prop), (∀ δ', P δ' → P' δ') → g d δ P → g d δ P'
structure KGs (g : GMs) : Prop where
  keep : KeepMs g
  mono : ∀ d δ (P P' : List DV → Prop), (∀ δ', P δ' → P' δ') → g d δ P → g d δ P'
theorem kg_N (i : Nat) : KG (gN i) := ⟨fun d δ P h => ⟨h, fun j dj h2 => by
  by_cases e : i = j
  · subst e
    rw [List.getElem?_set] at h2
    simp only [if_true] at h2
    split at h2 <;> cases h2
  · rw [List.getElem?_set_ne e] at h2
    exact h2⟩, fun d δ P P' k h => k _ h⟩
theorem kgs_nil : KGs gsNil := ⟨fun ds δ P h => ⟨h.1, h.2, fun _ _ z => z⟩, fun ds δ P P' k h => ⟨h.1, k _ h.2⟩⟩
theorem kgs_cons {g : GM} {gs : GMs} (hg : KG g) (hs : KGs gs) : KGs (gsCons g gs) := ⟨fun ds δ P h => by
  obtain ⟨d, r, e, h⟩ := h
  refine ⟨d, r, e, hg.mono _ _ _ _ (fun δ' k => ?_) (hg.keep _ _ _ h)⟩
  exact hs.mono _ _ _ _ (fun δ'' k2 => ⟨k2.1, fun j dj z => k.2 j dj (k2.2 j dj z)⟩) (hs.keep _ _ _ k.1), fun ds δ P P' k ⟨d, r, e, h⟩ => ⟨d, r, e, hg.mono _ _ _ _ (fun δ' h' => hs.mono _ _ _ _ k h') h⟩⟩
theorem kg_T {n : Nat} {gs : GMs} (hs : KGs gs) : KG (gT n gs) := ⟨fun d δ P ⟨ds, e, n, h⟩ => ⟨ds, e, n, hs.keep _ _ _ h⟩, fun d δ P P' k ⟨ds, e, n, h⟩ => ⟨ds, e, n, hs.mono _ _ _ _ k h⟩⟩
def compD2i (g1 : GM) (mt1 : BM) (mk mv : TM) (δ0 : List DV) : List D → List (Key × D) → (List (Key × D) → Prop) → Prop
  | [], acc, K => K acc
  | d :: ds, acc, K => g1 d δ0 fun δ' => mt1 δ' (fun b => if b = true then mk δ' (fun kd => mv δ' (fun v => ∃ key : Key, kd = keyD key ∧ acc.length < sizeLine ∧ compD2i g1 mt1 mk mv δ0 ds (putD acc key v) K) NoE) NoE else compD2i g1 mt1 mk mv δ0 ds acc K) NoE
def compD2 (vs1 : List Nat) (g : GM) (mt : BM) (mi1 : LM) (g1 : GM) (mt1 : BM) (mk mv : TM) (δ0 : List DV) : List D → List (Key × D) → (D → Prop) → Prop
  | [], acc, Q => Q (.dict acc)
  | d :: ds, acc, Q => g d δ0 fun δ' => mt δ' (fun b => if b = true then mi1 δ' (fun es => compD2i g1 mt1 mk mv (wipeD δ' vs1) es acc (fun acc' => compD2 vs1 g mt mi1 g1 mt1 mk mv δ0 ds acc' Q)) NoE else compD2 vs1 g mt mi1 g1 mt1 mk mv δ0 ds acc Q) NoE
def mCompD2 (vs vs1 : List Nat) (mi : LM) (g : GM) (mt : BM) (mi1 : LM) (g1 : GM) (mt1 : BM) (mk mv : TM) : TM := fun δ Q E => mi δ (fun ds => compD2 vs1 g mt mi1 g1 mt1 mk mv (wipeD δ vs) ds [] Q) E
section
variable {X : Cx} {W : WX} {pos p apos cpos : Pos} {ba : Bool} {e : Expr} {ma : TM}
theorem df_compD2 {kx vx tg it tg1 it1 : Expr} {ifs ifs1 : List Expr} {scope : Scope} {own : List (Str × Nat)} {vs1 : List Nat} {mi mi1 : LM} {g g1 : GM} {mt mt1 : BM} {mk mv : TM} (hc : X.calm = true) (hN : X.N.Nodup) (hi : DI X W tg it ba mi) (ok : BlkOk X.N X.env.scope scope own) (hv : ∀ i ∈ vs1, i ∈ own.map (·.2)) (hgm : KG g)
    (hg : ∀ (s : Shared) (H : Hp) (C : Addr) (cl : List (Str × Addr)) (fp : List Addr), DGw (X.blk s H scope (compEnvC scope cl C X.env) fp) (own.map (·.2)) tg g) (ht : ∀ (s : Shared) (H : Hp) (C : Addr) (cl : List (Str × Addr)) (fp : List Addr), DTs (X.blk s H scope (compEnvC scope cl C X.env) fp) NoW ifs mt)
    (hi1 : ∀ (s : Shared) (H : Hp) (C : Addr) (cl : List (Str × Addr)) (fp : List Addr), DI (X.blk s H scope (compEnvC scope cl C X.env) fp) NoW tg1 it1 false mi1)
    (hg1 : ∀ (s : Shared) (H : Hp) (C : Addr) (cl : List (Str × Addr)) (fp : List Addr), DGw (X.blk s H scope (compEnvC scope cl C X.env) fp) vs1 tg1 g1) (ht1 : ∀ (s : Shared) (H : Hp) (C : Addr) (cl : List (Str × Addr)) (fp : List Addr), DTs (X.blk s H scope (compEnvC scope cl C X.env) fp) NoW ifs1 mt1)
    (hk : ∀ (s : Shared) (H : Hp) (C : Addr) (cl : List (Str × Addr)) (fp : List Addr), DE (X.blk s H scope (compEnvC scope cl C X.env) fp) NoW kx false mk) (he : ∀ (s : Shared) (H : Hp) (C : Addr) (cl : List (Str × Addr)) (fp : List Addr), DE (X.blk s H scope (compEnvC scope cl C X.env) fp) NoW vx false mv)
    (hs : ∀ x, foldedSetIterable it X.env x = pure x := by intro _; rfl) (hs1 : ∀ env x, foldedSetIterable it1 env x = pure x := by intro _ _; rfl) :
    DF X W (.DictComp kx vx [⟨tg, it, ifs, 0⟩, ⟨tg1, it1, ifs1, 0⟩] scope pos) (mCompD2 (own.map (·.2)) vs1 mi g mt mi1 g1 mt1 mk mv) :=
  PE.imp (pe_dc2 (g := tgw X.K (List.map (fun x : Str × Nat => x.2) own) g) (tt := tb X.K NoW mt) (wi1 := ti X.K NoW false mi1) (g1 := tgw X.K vs1 g1) (tt1 := tb X.K NoW mt1) (tk := tm X.K NoW false mk) (tv := tm X.K NoW false mv) hc hN hi ok hv hg ht hi1 hg1 ht1 hk he hs hs1) fun σ H Q ⟨F, ow, δ, P, EK, A, m, q⟩ => by
    refine ⟨F, ow, δ, _, EK, A, m, fun ds J H1 hds s1 ok => ?_⟩
    intro Dn hD
    have E1 := A.env.grow s1
    have slotm : ∀ (j : Nat) (dj : D), (wipeD δ (own.map (·.2)))[j]? = some (.m dj) → ∃ a, (L2.wipe σ (own.map (·.2)))[j]? = some (some (.ref a)) ∧ a ≠ Dn := fun j dj h => by
      obtain ⟨s, e1, a, e2, ha, _⟩ := (E1.wipe (own.map (·.2))).slot j _ h
      subst e2
      refine ⟨a, e1, fun z => ?_⟩
      subst z
      obtain ⟨o, q, nn⟩ := E1.trk a (List.mem_append_right _ ha)
      rw [hD] at q; cases q
    have nodn : ∀ (j : Nat) (dj : D), (wipeD δ (own.map (·.2)))[j]? = some (.m dj) → (L2.wipe σ (own.map (·.2)))[j]? ≠ some (some (.ref Dn)) := fun j dj h z => by
      obtain ⟨a, e1, n⟩ := slotm j dj h
      rw [e1] at z; cases z
      exact n rfl
    let Z : Nat → Hp → Prop := fun i H => Same H1 H ∧ EnvD X.K F (Dn :: ow) (L2.wipe σ (own.map (·.2))) (wipeD δ (own.map (·.2))) H ∧ ∃ kvs acc, H Dn = some (.dK kvs) ∧ kvs.length ≤ sizeLine ∧ RepKs X.K (sub H (F.ls0 ++ (Dn :: ow))) kvs acc ∧ compD2 vs1 g mt mi1 g1 mt1 mk mv (wipeD δ (own.map (·.2))) (ds.drop i) acc P
    refine ⟨fun i n H => n = ds.length - i ∧ i ≤ ds.length ∧ Z i H, ⟨_, rfl, Nat.zero_le _, same_upd hD, (E1.wipe _).grab hD (same_upd hD) ⟨_, upd_same, plain_of⟩, [], [], upd_same, Nat.zero_le _, .nil, hds⟩, ?_⟩
    rintro i n H2 ⟨rfl, hi2, s2, E2, kvs, acc, hx, hl, rx, q2⟩
    have sg : Grow (flo ba H1 (F.ls0 ++ ow)) H2 := flo_le.trans s2.ob
    have sb : Grow (sub H1 (F.ls0 ++ ow)) (sub H2 (F.ls0 ++ (Dn :: ow))) := by
      rw [← sub_congr (H := H2) (mem_swap (ls := F.ls0) (own := ow) (p := Dn))]
      exact sub_fresh hD s2
    by_cases hlt : i < ds.length
    · refine .inr ⟨ok.go i H2 sg hlt, Z (i + 1), fun H' z => ⟨_, (by omega), rfl, hlt, z⟩, fun x H3 y => ?_⟩
      obtain ⟨d, ed, s3, r3⟩ := ok.yld i H2 x H3 (F.ls0 ++ (Dn :: ow)) sg sb E2.trk hlt y
      rw [drop_get ed] at q2
      refine ⟨F, Dn :: ow, _, d, _, E2.grow s3, r3, hgm.keep _ _ _ q2, fun σ4 δ4 E4 w4 q4 => ⟨by rw [w4]; exact wipe_wipe, F, Dn :: ow, δ4, _, NoE, ⟨E4, noPass⟩, q4.1, fun b H5 p5 s5 => ?_⟩⟩
      cases b with
      | false =>
        have p5' : compD2 vs1 g mt mi1 g1 mt1 mk mv (wipeD δ (own.map (·.2))) (ds.drop (i + 1)) acc P := by simpa using p5
        exact iteF ⟨(s2.trans s3).trans s5, E2.grow (s3.trans s5), kvs, acc, s5 _ _ (s3 _ _ hx), hl, rx.mono (sub_same (s3.trans s5)), p5'⟩
      | true =>
        rw [if_pos rfl] at p5
        refine iteT ⟨F, Dn :: ow, δ4, _, NoE, ⟨E4.grow s5, noPass⟩, p5, fun es J1 H6 pes s6 ok1 => ?_⟩
        have s36 := (s3.trans s5).trans s6
        have s16 := s2.trans s36
        have nodn1 : ∀ (j : Nat) (dj : D), (wipeD δ4 vs1)[j]? = some (.m dj) → (L2.wipe σ4 vs1)[j]? ≠ some (some (.ref Dn)) := fun j dj h z => by
          have h2 := wipeD_m h
          have h3 : (wipeD δ (own.map (·.2)))[j]? = some (.m dj) := q4.2 j dj h2
          obtain ⟨a, e1, na⟩ := slotm j dj h3
          have w4' : L2.wipe σ4 (own.map (·.2)) = L2.wipe σ (own.map (·.2)) := w4.trans wipe_wipe
          rw [← w4'] at e1
          have e2 := (wipe_some e1).1
          rw [(wipe_some z).1] at e2
          cases e2
          exact na rfl
        let Y : Nat → Hp → Prop := fun j H => Same H1 H ∧ Grow (sub H6 (F.ls0 ++ (Dn :: ow))) (sub H (F.ls0 ++ (Dn :: ow))) ∧ EnvD X.K F (Dn :: ow) (L2.wipe σ (own.map (·.2))) (wipeD δ (own.map (·.2))) H ∧ EnvD X.K F (Dn :: ow) (L2.wipe σ4 vs1) (wipeD δ4 vs1) H ∧ ∃ kvs acc, H Dn = some (.dK kvs) ∧ kvs.length ≤ sizeLine ∧ RepKs X.K (sub H (F.ls0 ++ (Dn :: ow))) kvs acc ∧
          compD2i g1 mt1 mk mv (wipeD δ4 vs1) (es.drop j) acc (fun acc' => compD2 vs1 g mt mi1 g1 mt1 mk mv (wipeD δ (own.map (·.2))) (ds.drop (i + 1)) acc' P)
        refine ⟨fun j k H => k = es.length - j ∧ j ≤ es.length ∧ Y j H, ⟨_, rfl, Nat.zero_le _, s16, Grow.refl _, E2.grow s36, (E4.grow (s5.trans s6)).wipe vs1, kvs, acc, s6 _ _ (s5 _ _ (s3 _ _ hx)), hl, rx.mono (sub_same s36), pes⟩, ?_⟩
        rintro j k H7 ⟨rfl, hj, t1, t2, F2, F4, kvs7, acc7, hx7, hl7, rx7, q7⟩
        have tg7 : Grow (flo false H6 (F.ls0 ++ (Dn :: ow))) H7 := t2.trans sub_le
        by_cases hlt7 : j < es.length
        · refine .inr ⟨ok1.go j H7 tg7 hlt7, Y (j + 1), fun H' z => ⟨_, (by omega), rfl, hlt7, z⟩, fun x1 H8 y1 => ?_⟩
          obtain ⟨d1, ed1, s8, r8⟩ := ok1.yld j H7 x1 H8 (F.ls0 ++ (Dn :: ow)) tg7 t2 F4.trk hlt7 y1
          rw [drop_get ed1] at q7
          refine ⟨F, Dn :: ow, _, d1, _, F4.grow s8, r8, q7, fun σ9 δ9 E9 w9 q9 => ⟨by rw [w9]; exact wipe_wipe, F, Dn :: ow, δ9, _, NoE, ⟨E9, noPass⟩, q9, fun b H9 p9 s9 => ?_⟩⟩
          cases b with
          | false =>
            have p9' := p9
            simp only [Bool.false_eq_true, if_false] at p9'
            exact iteF ⟨t1.trans (s8.trans s9), t2.trans (sub_same (s8.trans s9)), F2.grow (s8.trans s9), F4.grow (s8.trans s9), kvs7, acc7, s9 _ _ (s8 _ _ hx7), hl7, rx7.mono (sub_same (s8.trans s9)), p9'⟩
          | true =>
            rw [if_pos rfl] at p9
            refine iteT ⟨F, Dn :: ow, δ9, _, NoE, ⟨E9.grow s9, noPass⟩, p9, fun kd kv H10 p10 s10 r10 => ⟨F, Dn :: ow, δ9, _, NoE, ⟨(E9.grow s9).grow s10, noPass⟩, p10, fun yd v H11 ⟨key, ek, hz, p11⟩ s11 r11 => ?_⟩⟩
            subst ek
            have ekv := kV_of r10
            subst ekv
            have all := (s8.trans s9).trans (s10.trans s11)
            have hx11 := all _ _ hx7
            have es11 : sub (upd H11 Dn (.dK (putK kvs7 key v))) (F.ls0 ++ (Dn :: ow)) = sub H11 (F.ls0 ++ (Dn :: ow)) := sub_upd (List.mem_append_right _ List.mem_cons_self)
            have hz7 : kvs7.length < sizeLine := by rw [rx7.length]; exact hz
            refine ⟨kvs7, key, rfl, hx11, hz7, Same.put (t1.trans all) hD hx11, ?_, (F2.grow all).poke List.mem_cons_self hx11 nodn, (F4.grow all).poke List.mem_cons_self hx11 nodn1, putK kvs7 key v, putD acc7 key yd, upd_same, ?_, ?_, p11⟩
            · rw [es11]
              exact t2.trans (sub_same all)
            · have := putK_len kvs7 key v
              omega
            · rw [es11]
              exact (rx7.mono (sub_same all)).put r11.clean
        · have e : j = es.length := by omega
          subst e
          rw [List.drop_length] at q7
          exact .inl ⟨ok1.stop _ H7 tg7 rfl, t1, F2, kvs7, acc7, hx7, hl7, rx7, q7⟩
    · have e : i = ds.length := by omega
      subst e
      rw [List.drop_length] at q2
      refine .inl ⟨ok.stop _ H2 sg rfl, q _ Dn H2 q2 (s1.free hD) (s1.trans s2) (.d hx hl ?_)⟩
      rw [sub_congr (H := H2) (mem_swap (ls := F.ls0) (own := ow) (p := Dn))]
      exact rx
end
end DL
set_option Elab.async false
set_option linter.all false
set_option maxRecDepth 100000
set_option maxHeartbeats 4000000
/-! DL119: a, b = fresh, value where a name is a cell: the tuple is built and taken apart. -/
namespace DL
open PySem PySem.Spec PyProof.Rows L2
end DL
set_option Elab.async false
set_option linter.all false
set_option maxRecDepth 100000
set_option maxHeartbeats 4000000
/-! DL120: packings as plain rows of runs. -/
namespace DL
open PySem PySem.Spec PyProof.Rows L2
variable [TabsC]
abbrev PRun := Int × Int × Tab
def fillD (f : Tab) : D := .tup (f.map pairD)
def prD (x : PRun) : D := .tup [.int x.1, .int x.2.1, fillD x.2.2]
def packD (L : List PRun) : D := .sob "Packing" (.tup (L.map prD))
def jstep (acc : List PRun) (p : PRun) : List PRun := match acc.getLast? with
  | some q => if q.1 = p.1 ∧ q.2.2 = p.2.2 then acc.dropLast ++ [(p.1, q.2.1 + p.2.1, p.2.2)] else acc ++ [p]
  | none => acc ++ [p]
def joinR (L : List PRun) : List PRun := L.foldl jstep []
def roomsOf (L : List PRun) : Runs := L.map fun x => (x.1, x.2.1)
theorem rooms_snoc (L : List PRun) (p : PRun) : roomsOf (L ++ [p]) = roomsOf L ++ [(p.1, p.2.1)] := by unfold roomsOf; rw [List.map_append]; rfl
theorem join_snoc (L : List PRun) (p : PRun) : joinR (L ++ [p]) = jstep (joinR L) p := by unfold joinR; rw [List.foldl_append]; rfl
theorem jstep_nil (p : PRun) : jstep [] p = [p] := rfl
theorem jstep_end (acc : List PRun) (q p : PRun) : jstep (acc ++ [q]) p = if q.1 = p.1 ∧ q.2.2 = p.2.2 then acc ++ [(p.1, q.2.1 + p.2.1, p.2.2)] else acc ++ [q] ++ [p] := by
  unfold jstep
  rw [List.getLast?_append]
  simp
theorem snocI {α : Type} {P : List α → Prop} (h0 : P []) (h1 : ∀ L p, P L → P (L ++ [p])) (L : List α) : P L := by
  have : ∀ L : List α, P L.reverse := fun L => by
    induction L with
    | nil => exact h0
    | cons p r ih => rw [List.reverse_cons]; exact h1 _ _ ih
  have := this L.reverse
  rwa [List.reverse_reverse] at this
theorem end_or {α : Type} (L : List α) : L = [] ∨ ∃ l q, L = l ++ [q] := by
  rcases List.eq_nil_or_concat L with c | ⟨l, q, c⟩
  · exact .inl c
  · exact .inr ⟨l, q, by rw [c, List.concat_eq_append]⟩
theorem jstep_len (acc : List PRun) (p : PRun) : (jstep acc p).length ≤ acc.length + 1 := by
  rcases end_or acc with c | ⟨l, q, c⟩
  · subst c; simp [jstep_nil]
  · subst c
    rw [jstep_end]
    split <;> simp
theorem joinR_len (L : List PRun) : (joinR L).length ≤ L.length := by
  refine snocI (P := fun L => (joinR L).length ≤ L.length) (Nat.le_refl _) (fun L p ih => ?_) L
  rw [join_snoc, List.length_append]
  have := jstep_len (joinR L) p
  simp only [List.length_cons, List.length_nil]
  omega
theorem join_join (L : List PRun) : joinR (joinR L) = joinR L := by
  refine snocI (P := fun L => joinR (joinR L) = joinR L) rfl (fun L p ih => ?_) L
  rw [join_snoc]
  rcases end_or (joinR L) with c | ⟨l, q, c⟩
  · rw [c]; rfl
  · rw [c] at ih ⊢
    rw [join_snoc] at ih
    have hl := joinR_len l
    have hA : joinR l = l ∧ jstep l q = l ++ [q] := by
      rcases end_or (joinR l) with c2 | ⟨l2, q2, c2⟩
      · rw [c2, jstep_nil] at ih
        have : l = [] := by
          have h := congrArg List.length ih
          simp at h
          exact h
        subst this
        exact ⟨rfl, rfl⟩
      · rw [c2] at hl
        have ih0 := ih
        rw [c2, jstep_end] at ih
        split at ih
        · have h := congrArg List.length ih
          simp at h hl
          omega
        · have e := (List.append_inj' ih rfl).1
          rw [c2, e] 
          rw [c2, e] at ih0
          exact ⟨rfl, ih0⟩
    rw [jstep_end]
    split
    · rename_i h
      rw [join_snoc, hA.1]
      rcases end_or l with c2 | ⟨l2, q2, c2⟩
      · rw [c2]; rfl
      · have h2 := hA.2
        rw [c2, jstep_end] at h2
        rw [c2, jstep_end]
        have no : ¬ (q2.1 = q.1 ∧ q2.2.2 = q.2.2) := fun z => by
          rw [if_pos z] at h2
          have h := congrArg List.length h2
          simp at h
        rw [if_neg]
        rw [← h.1, ← h.2]
        exact no
    · rename_i h
      rw [join_snoc, join_snoc, hA.1, hA.2, jstep_end, if_neg h]
theorem mstep_two (M : Runs) (r a b : Int) : mstep (mstep M (r, a)) (r, b) = mstep M (r, a + b) := by
  rcases end_or M with c | ⟨l, q, c⟩
  · subst c
    show mstep ([] ++ [(r, a)]) (r, b) = [(r, a + b)]
    rw [mstep_end, if_pos rfl]; rfl
  · subst c
    rw [mstep_end, mstep_end]
    by_cases e : q.1 = r
    · rw [if_pos e, if_pos e, mstep_end, if_pos rfl, Int.add_assoc]
    · rw [if_neg e, if_neg e, mstep_end, if_pos rfl]
theorem rooms_join (L : List PRun) : mergeT (roomsOf (joinR L)) = mergeT (roomsOf L) := by
  refine snocI (P := fun L => mergeT (roomsOf (joinR L)) = mergeT (roomsOf L)) rfl (fun L p ih => ?_) L
  rw [join_snoc, rooms_snoc, mergeT_snoc, ← ih]
  rcases end_or (joinR L) with c | ⟨l, q, c⟩
  · rw [c]; rfl
  · rw [c, jstep_end]
    split
    · rename_i h
      rw [rooms_snoc, mergeT_snoc, rooms_snoc, mergeT_snoc, h.1, mstep_two]
    · rw [rooms_snoc, mergeT_snoc]
def fillOk (f : Tab) : Prop := f.length ≤ 12 ∧ (∀ p, p ∈ f → (1 ≤ p.1 ∧ p.1 < 10 ^ 200) ∧ 1 ≤ p.2 ∧ p.2 < 10 ^ 200) ∧ ascL (keysT f) = true
def loadT (f : Tab) : Int := (f.map fun p => p.1 * p.2).sum
/-- a right run -/
def prOk (x : PRun) : Prop := ((1 ≤ x.1 ∧ x.1 < 10 ^ 200) ∧ 1 ≤ x.2.1 ∧ x.2.1 < 10 ^ 200) ∧ fillOk x.2.2 ∧ loadT x.2.2 ≤ x.1
def nbP (f : Tab) : List ((Int × Int) × (Int × Int)) := f.zip (f.drop 1)
theorem nb_keys (f : Tab) : zipD (f.map pairD) ((f.map pairD).drop 1) = (nbP f).map fun p => .tup [pairD p.1, pairD p.2] := by
  unfold zipD nbP
  rw [← List.map_drop, List.zip_map, List.map_map]
  rfl
theorem nb_asc : ∀ f : Tab, ((nbP f).all fun p => decide (p.1.1 < p.2.1)) = ascL (keysT f)
  | [] => rfl
  | [x] => rfl
  | x :: y :: r => by
    show (decide (x.1 < y.1) && (nbP (y :: r)).all fun p => decide (p.1.1 < p.2.1)) = (decide (x.1 < y.1) && ascL (keysT (y :: r)))
    rw [nb_asc (y :: r)]
theorem fineF (f : Tab) : fineN 2 (fillD f) := fineN_tup fun d hd => by
  obtain ⟨p, hp, rfl⟩ := List.mem_map.mp hd
  exact fineP p
theorem finePr (x : PRun) : fineN 3 (prD x) := fineN_tup fun d hd => by
  simp only [List.mem_cons, List.not_mem_nil, or_false] at hd
  rcases hd with rfl | rfl | rfl
  · exact fineN_int
  · exact fineN_int
  · exact fineF _
theorem finePR (L : List PRun) : fineN 4 (.list (L.map prD)) := fineN_list fun d hd => by
  obtain ⟨p, hp, rfl⟩ := List.mem_map.mp hd
  exact finePr p
theorem finePT (L : List PRun) : fineN 4 (.tup (L.map prD)) := fineN_tup fun d hd => by
  obtain ⟨p, hp, rfl⟩ := List.mem_map.mp hd
  exact finePr p
theorem fEq_fill {f g : Tab} {Q : Bool → Prop} (q : Q (decide (f = g))) : fEq (fillD f) (fillD g) Q := eq_runs f g q
/-! ### things -/
def flatP (L : List PRun) : Tab := L.flatMap fun x => x.2.2.map fun p => (p.1, x.2.1 * p.2)
def accT (T : Tab) : Tab := T.foldl (fun acc p => incT acc p.1 p.2) []
def totK (T : Tab) (k : Int) : Int := (T.map fun p => if k = p.1 then p.2 else 0).sum
theorem flat_snoc (L : List PRun) (p : PRun) : flatP (L ++ [p]) = flatP L ++ p.2.2.map fun q => (q.1, p.2.1 * q.2) := by unfold flatP; rw [List.flatMap_append]; simp
theorem tot_app (A B : Tab) (k : Int) : totK (A ++ B) k = totK A k + totK B k := by unfold totK; rw [List.map_append, List.sum_append]
theorem acc_snoc (T : Tab) (p : Int × Int) : accT (T ++ [p]) = incT (accT T) p.1 p.2 := by unfold accT; rw [List.foldl_append]; rfl
theorem acc_facts (T : Tab) : (keysT (accT T)).Nodup ∧ (∀ k, cntT (accT T) k = totK T k) ∧ ∀ k, k ∈ keysT (accT T) ↔ k ∈ keysT T := by
  refine snocI (P := fun T => (keysT (accT T)).Nodup ∧ (∀ k, cntT (accT T) k = totK T k) ∧ ∀ k, k ∈ keysT (accT T) ↔ k ∈ keysT T) ⟨by simp [accT, keysT], fun k => rfl, fun k => Iff.rfl⟩ (fun T p ih => ?_) T
  obtain ⟨hn, hc, hk⟩ := ih
  rw [acc_snoc]
  refine ⟨inc_nodup hn, fun k => ?_, fun k => ?_⟩
  · rw [inc_at hn, hc, tot_app]
    congr 1
    simp [totK]
  · rw [inc_keys, hk]
    simp [keysT]
theorem tot_fill (f : Tab) (a b k : Int) : totK (f.map fun q => (q.1, (a + b) * q.2)) k = totK (f.map fun q => (q.1, a * q.2)) k + totK (f.map fun q => (q.1, b * q.2)) k := by
  induction f with
  | nil => rfl
  | cons q r ih =>
    simp only [totK, List.map_cons, List.sum_cons] at ih ⊢
    rw [ih]
    split
    · rw [Int.add_mul]; omega
    · omega
theorem tot_join (L : List PRun) (k : Int) : totK (flatP (joinR L)) k = totK (flatP L) k := by
  refine snocI (P := fun L => totK (flatP (joinR L)) k = totK (flatP L) k) rfl (fun L p ih => ?_) L
  rw [join_snoc, flat_snoc, tot_app, ← ih]
  rcases end_or (joinR L) with c | ⟨l, q, c⟩
  · rw [c, jstep_nil, show [p] = [] ++ [p] from rfl, flat_snoc, tot_app]
  · rw [c, jstep_end]
    split
    · rename_i h
      rw [flat_snoc, flat_snoc, tot_app, tot_app, h.2]
      show _ + totK (p.2.2.map fun x => (x.1, (q.2.1 + p.2.1) * x.2)) k = _
      rw [tot_fill]
      omega
    · rw [flat_snoc, tot_app]
theorem keys_join (L : List PRun) (k : Int) : k ∈ keysT (flatP (joinR L)) ↔ k ∈ keysT (flatP L) := by
  refine snocI (P := fun L => k ∈ keysT (flatP (joinR L)) ↔ k ∈ keysT (flatP L)) Iff.rfl (fun L p ih => ?_) L
  have ka : ∀ A B : Tab, k ∈ keysT (A ++ B) ↔ k ∈ keysT A ∨ k ∈ keysT B := fun A B => by simp [keysT]
  have kf : ∀ (f : Tab) (a : Int), k ∈ keysT (f.map fun q => (q.1, a * q.2)) ↔ k ∈ keysT f := fun f a => by
    unfold keysT
    rw [List.map_map]
    exact Iff.rfl
  rw [join_snoc, flat_snoc, ka, ← ih, kf]
  rcases end_or (joinR L) with c | ⟨l, q, c⟩
  · rw [c, jstep_nil, show [p] = [] ++ [p] from rfl, flat_snoc, ka, kf]
  · rw [c, jstep_end]
    split
    · rename_i h
      rw [flat_snoc, flat_snoc, ka, ka, kf, kf, h.2, or_assoc, or_self]
    · rw [flat_snoc, ka, kf]
theorem acc_len (T : Tab) : (accT T).length ≤ T.length := by
  refine snocI (P := fun T => (accT T).length ≤ T.length) (Nat.le_refl _) (fun T p ih => ?_) T
  rw [acc_snoc, List.length_append, List.length_singleton]
  have := add_len (L := accT T) (z := p.1) (n := p.2)
  omega
/-! ### the sizes in runs -/
def addK (acc : List Int) (s : Int) : List Int := if s ∈ acc then acc else acc ++ [s]
def SK (L : List PRun) : List Int := (keysT (flatP L)).foldl addK []
def trueT (ks : List Int) : List (Key × D) := ks.map fun s => (.inl s, .bool true)
theorem flat_cons (x : PRun) (L : List PRun) : flatP (x :: L) = x.2.2.map (fun q => (q.1, x.2.1 * q.2)) ++ flatP L := by unfold flatP; rw [List.flatMap_cons]
theorem keys_fill (f : Tab) (a : Int) : keysT (f.map fun q => (q.1, a * q.2)) = keysT f := by
  unfold keysT
  rw [List.map_map]
  rfl
theorem put_true (ks : List Int) (s : Int) : putD (trueT ks) (.inl s) (.bool true) = trueT (addK ks s) := by
  unfold putD addK trueT
  have hany : ((ks.map fun s => ((.inl s : Key), D.bool true)).any fun kv => decide (kv.1 = .inl s)) = decide (s ∈ ks) := by
    rw [List.any_map]
    by_cases h : s ∈ ks
    · rw [decide_eq_true h]
      exact List.any_eq_true.mpr ⟨s, h, by simp⟩
    · rw [decide_eq_false h]
      refine List.any_eq_false.mpr fun z hz => ?_
      simp only [Function.comp, decide_eq_true_eq]
      intro e
      cases e
      exact h hz
  rw [hany]
  by_cases h : s ∈ ks
  · rw [if_pos (by simp [h]), if_pos h, List.map_map]
    refine List.map_congr_left fun z _ => ?_
    show (if ((.inl z : Key) = .inl s) then _ else _) = _
    split <;> rfl
  · rw [if_neg (by simp [h]), if_neg h, List.map_append]
    rfl
theorem addK_mem {acc : List Int} {s k : Int} : k ∈ addK acc s ↔ k ∈ acc ∨ k = s := by
  unfold addK
  split
  · rename_i h
    exact ⟨.inl, fun z => z.elim id fun e => e ▸ h⟩
  · simp
theorem addK_nd {acc : List Int} {s : Int} (h : acc.Nodup) : (addK acc s).Nodup := by
  unfold addK
  split
  · exact h
  · rename_i n
    refine List.nodup_append.mpr ⟨h, by simp, fun a ha b hb e => ?_⟩
    rw [List.mem_singleton] at hb
    exact n (by rw [← hb, ← e]; exact ha)
theorem foldK (ks : List Int) : ∀ acc : List Int, acc.Nodup → (ks.foldl addK acc).Nodup ∧ (∀ k, k ∈ ks.foldl addK acc ↔ k ∈ acc ∨ k ∈ ks) ∧ (ks.foldl addK acc).length ≤ acc.length + ks.length := by
  induction ks with
  | nil => exact fun acc h => ⟨h, fun k => by simp, by simp⟩
  | cons s r ih =>
    intro acc h
    obtain ⟨h1, h2, h3⟩ := ih (addK acc s) (addK_nd h)
    rw [List.foldl_cons]
    refine ⟨h1, fun k => ?_, ?_⟩
    · rw [h2, addK_mem, List.mem_cons, or_assoc]
    · have : (addK acc s).length ≤ acc.length + 1 := by
        unfold addK
        split <;> simp
      rw [List.length_cons]
      omega
theorem foldK' (ks : List Int) : ∀ acc : List Int, (ks.foldl addK acc).length ≤ acc.length + ks.length := by
  induction ks with
  | nil => exact fun acc => by simp
  | cons s r ih =>
    intro acc
    have h3 := ih (addK acc s)
    rw [List.foldl_cons]
    have : (addK acc s).length ≤ acc.length + 1 := by
      unfold addK
      split <;> simp
    rw [List.length_cons]
    omega
theorem SK_facts (L : List PRun) : (SK L).Nodup ∧ ∀ k, k ∈ SK L ↔ k ∈ keysT (flatP L) := by
  obtain ⟨h1, h2, _⟩ := foldK (keysT (flatP L)) [] (by simp)
  exact ⟨h1, fun k => (h2 k).trans (by simp)⟩
theorem SK_few {L : List PRun} {U : List Int} (h : ∀ k, k ∈ keysT (flatP L) → k ∈ U) : (SK (joinR L)).length ≤ U.length := by
  obtain ⟨h1, h2⟩ := SK_facts (joinR L)
  exact nodup_sub h1 fun k hk => h k ((keys_join L k).mp ((h2 k).mp hk))
/-- all fillings of runs that are joined were there -/
theorem join_fill {L : List PRun} {P : Tab → Prop} (h : ∀ x, x ∈ L → P x.2.2) : ∀ x, x ∈ joinR L → P x.2.2 := by
  refine snocI (P := fun L => (∀ x, x ∈ L → P x.2.2) → ∀ x, x ∈ joinR L → P x.2.2) (fun _ x hx => by cases hx) (fun L p ih h => ?_) L h
  have ih := ih fun x hx => h x (List.mem_append_left _ hx)
  have hp := h p (by simp)
  rw [join_snoc]
  rcases end_or (joinR L) with c | ⟨l, q, c⟩
  · rw [c, jstep_nil]
    intro x hx
    rw [List.mem_singleton] at hx
    rw [hx]; exact hp
  · rw [c] at ih ⊢
    rw [jstep_end]
    split
    · intro x hx
      rcases List.mem_append.mp hx with z | z
      · exact ih x (List.mem_append_left _ z)
      · rw [List.mem_singleton] at z
        rw [z]; exact hp
    · intro x hx
      rcases List.mem_append.mp hx with z | z
      · exact ih x z
      · rw [List.mem_singleton] at z
        rw [z]; exact hp
theorem flatP_len {L : List PRun} (h : ∀ x, x ∈ L → fillOk x.2.2) : (flatP L).length ≤ 12 * L.length := by
  induction L with
  | nil => simp [flatP]
  | cons x r ih =>
    rw [flat_cons, List.length_append, List.length_map, List.length_cons]
    have := ih fun z hz => h z (List.mem_cons_of_mem _ hz)
    have := (h x List.mem_cons_self).1
    omega
theorem draw_tab {m : Int} : ∀ {ss : List Int} {ys : List D}, ys.length = (ss.map D.int).length → (∀ (i : Nat) (d y : D), (ss.map D.int)[i]? = some d → ys[i]? = some y → ∃ c : Int, 0 ≤ c ∧ c ≤ m ∧ y = .tup [d, .int c]) → ∃ T : Tab, ys = T.map pairD ∧ keysT T = ss ∧ ∀ p, p ∈ T → 0 ≤ p.2 ∧ p.2 ≤ m
  | [], [], _, _ => ⟨[], rfl, rfl, fun p hp => by cases hp⟩
  | [], _ :: _, h, _ => by simp at h
  | _ :: _, [], h, _ => by simp at h
  | s :: ss, y :: ys, h, hy => by
    obtain ⟨T, e1, e2, e3⟩ := draw_tab (ss := ss) (ys := ys) (by simpa using h) fun i d z h1 h2 => hy (i + 1) d z (by simpa using h1) (by simpa using h2)
    obtain ⟨c, c0, c1, e⟩ := hy 0 (.int s) y rfl rfl
    refine ⟨(s, c) :: T, by rw [e, e1]; rfl, by show s :: keysT T = _; rw [e2], fun p hp => ?_⟩
    rcases List.mem_cons.mp hp with rfl | z
    · exact ⟨c0, c1⟩
    · exact e3 p z
theorem fill_pos {T : Tab} {ss : List Int} {m B : Int} (hk : keysT T = ss) (hn : ss.Nodup) (hl : ss.length ≤ 12) (hb : ∀ s, s ∈ ss → 1 ≤ s ∧ s ≤ B) (hB : B < 10 ^ 200) (h : ∀ p, p ∈ T → 0 ≤ p.2 ∧ p.2 ≤ m) (hm : m < 10 ^ 200) : fillOk (posT T) ∧ ∀ p, p ∈ posT T → p.1 ∈ ss ∧ p.2 ≤ m := by
  have hnT : (keysT T).Nodup := by rw [hk]; exact hn
  have mem : ∀ p, p ∈ posT T → p ∈ T := fun p hp => ((posT_mem hnT).mp hp).1
  have inK : ∀ p, p ∈ posT T → p.1 ∈ ss := fun p hp => by rw [← hk]; exact List.mem_map_of_mem (mem p hp)
  refine ⟨⟨?_, fun p hp => ?_, posT_asc T⟩, fun p hp => ⟨inK p hp, (h p (mem p hp)).2⟩⟩
  · refine Nat.le_trans (List.length_filter_le _ _) ?_
    rw [← keys_len, sortT_keys, hk]
    exact Nat.le_trans setL_len hl
  · have a := hb p.1 (inK p hp)
    have b := posT_pos p hp
    have c := (h p (mem p hp)).2
    exact ⟨⟨a.1, by omega⟩, b, by omega⟩
theorem load_le {B m : Int} (hB : 0 ≤ B) (hm : 0 ≤ m) : ∀ {f : Tab}, (∀ p, p ∈ f → (1 ≤ p.1 ∧ p.1 ≤ B) ∧ 1 ≤ p.2 ∧ p.2 ≤ m) → 0 ≤ loadT f ∧ loadT f ≤ (f.length : Int) * (B * m)
  | [], _ => ⟨Int.le_refl _, by simp [loadT]⟩
  | p :: r, h => by
    obtain ⟨a, b⟩ := load_le hB hm (f := r) fun z hz => h z (List.mem_cons_of_mem _ hz)
    have hp := h p List.mem_cons_self
    have e : loadT (p :: r) = p.1 * p.2 + loadT r := rfl
    have m1 : p.1 * p.2 ≤ B * m := Int.mul_le_mul hp.1.2 hp.2.2 (by omega) hB
    have m0 : 0 ≤ p.1 * p.2 := Int.mul_nonneg (by omega) (by omega)
    rw [e, List.length_cons]
    have e2 : ((r.length + 1 : Nat) : Int) * (B * m) = (r.length : Int) * (B * m) + B * m := by
      rw [Int.natCast_add, Int.add_mul]
      simp
    rw [e2]
    omega
theorem load_small {f : Tab} {ss : List Int} (hf : fillOk f) (hp : ∀ p, p ∈ f → p.1 ∈ ss ∧ p.2 ≤ 3) (hb : ∀ s, s ∈ ss → 1 ≤ s ∧ s ≤ 10 ^ 40) : 0 ≤ loadT f ∧ loadT f ≤ 36 * 10 ^ 40 := by
  obtain ⟨a, b⟩ := load_le (B := 10 ^ 40) (m := 3) (by decide) (by decide) fun p hq => ⟨hb p.1 (hp p hq).1, (hf.2.1 p hq).2.1, (hp p hq).2⟩
  have hl := hf.1
  refine ⟨a, Int.le_trans b ?_⟩
  have : (f.length : Int) * (10 ^ 40 * 3) ≤ 12 * (10 ^ 40 * 3) := Int.mul_le_mul_of_nonneg_right (by omega) (by decide)
  omega
theorem flat_in {L : List PRun} {U : List Int} (h : ∀ x, x ∈ L → ∀ p, p ∈ x.2.2 → p.1 ∈ U) : ∀ k, k ∈ keysT (flatP L) → k ∈ U := fun k hk => by
  obtain ⟨q, hq, rfl⟩ := List.mem_map.mp hk
  unfold flatP at hq
  obtain ⟨x, hx, hq⟩ := List.mem_flatMap.mp hq
  obtain ⟨p, hp, rfl⟩ := List.mem_map.mp hq
  exact h x hx p hp
theorem join_ok {L : List PRun} {M : Int} (hM : 0 ≤ M) (h : ∀ x, x ∈ L → ((1 ≤ x.1 ∧ x.1 < 10 ^ 200) ∧ 1 ≤ x.2.1 ∧ x.2.1 ≤ M) ∧ fillOk x.2.2 ∧ loadT x.2.2 ≤ x.1) : ∀ x, x ∈ joinR L → ((1 ≤ x.1 ∧ x.1 < 10 ^ 200) ∧ 1 ≤ x.2.1 ∧ x.2.1 ≤ (L.length : Int) * M) ∧ fillOk x.2.2 ∧ loadT x.2.2 ≤ x.1 := by
  refine snocI (P := fun L => (∀ x, x ∈ L → ((1 ≤ x.1 ∧ x.1 < 10 ^ 200) ∧ 1 ≤ x.2.1 ∧ x.2.1 ≤ M) ∧ fillOk x.2.2 ∧ loadT x.2.2 ≤ x.1) → ∀ x, x ∈ joinR L → ((1 ≤ x.1 ∧ x.1 < 10 ^ 200) ∧ 1 ≤ x.2.1 ∧ x.2.1 ≤ (L.length : Int) * M) ∧ fillOk x.2.2 ∧ loadT x.2.2 ≤ x.1) (fun _ x hx => by cases hx) (fun L p ih h => ?_) L h
  have ih := ih fun x hx => h x (List.mem_append_left _ hx)
  have hp := h p (by simp)
  have e : ((L ++ [p]).length : Int) * M = (L.length : Int) * M + M := by
    rw [List.length_append, List.length_singleton, Int.natCast_add, Int.add_mul]
    simp
  have m0 : 0 ≤ (L.length : Int) * M := Int.mul_nonneg (by omega) hM
  have up : ∀ x : PRun, (((1 ≤ x.1 ∧ x.1 < 10 ^ 200) ∧ 1 ≤ x.2.1 ∧ x.2.1 ≤ (L.length : Int) * M) ∧ fillOk x.2.2 ∧ loadT x.2.2 ≤ x.1) → ((1 ≤ x.1 ∧ x.1 < 10 ^ 200) ∧ 1 ≤ x.2.1 ∧ x.2.1 ≤ ((L ++ [p]).length : Int) * M) ∧ fillOk x.2.2 ∧ loadT x.2.2 ≤ x.1 := fun x h => ⟨⟨h.1.1, h.1.2.1, by rw [e]; have := h.1.2.2; omega⟩, h.2⟩
  have upp : ((1 ≤ p.1 ∧ p.1 < 10 ^ 200) ∧ 1 ≤ p.2.1 ∧ p.2.1 ≤ ((L ++ [p]).length : Int) * M) ∧ fillOk p.2.2 ∧ loadT p.2.2 ≤ p.1 := ⟨⟨hp.1.1, hp.1.2.1, by rw [e]; have := hp.1.2.2; omega⟩, hp.2⟩
  rw [join_snoc]
  rcases end_or (joinR L) with c | ⟨l, q, c⟩
  · rw [c, jstep_nil]
    intro x hx
    rw [List.mem_singleton] at hx
    rw [hx]; exact upp
  · rw [c] at ih ⊢
    rw [jstep_end]
    split
    · intro x hx
      rcases List.mem_append.mp hx with z | z
      · exact up x (ih x (List.mem_append_left _ z))
      · rw [List.mem_singleton] at z
        have hq := ih q (by simp)
        rw [z]
        refine ⟨⟨hp.1.1, ?_, ?_⟩, hp.2⟩
        · have := hp.1.2.1
          have := hq.1.2.1
          show 1 ≤ q.2.1 + p.2.1
          omega
        · have := hp.1.2.2
          have := hq.1.2.2
          show q.2.1 + p.2.1 ≤ _
          rw [e]
          omega
    · intro x hx
      rcases List.mem_append.mp hx with z | z
      · exact up x (ih x z)
      · rw [List.mem_singleton] at z
        rw [z]; exact upp
theorem join_two (L : List PRun) (p : PRun) : joinR (joinR L ++ [p]) = joinR (L ++ [p]) := by rw [join_snoc, join_join, join_snoc]
end DL
set_option Elab.async false
set_option linter.all false
set_option maxRecDepth 100000
set_option maxHeartbeats 4000000
/-! DL121: xs[::-1] of a list as an own fresh list. -/
namespace DL
open PySem PySem.Spec PyProof.Rows L2
variable [TabsC]
def mRevL (ma : TM) : TM := fun δ Q E => ma δ (fun d => ∃ ds, d = .list ds ∧ Q (.list ds.reverse)) E
theorem tot_bnd {B k : Int} (hB : 0 ≤ B) : ∀ {F : Tab}, (∀ p, p ∈ F → 1 ≤ p.2 ∧ p.2 ≤ B) → 0 ≤ totK F k ∧ totK F k ≤ (F.length : Int) * B ∧ (k ∈ keysT F → 1 ≤ totK F k)
  | [], _ => ⟨Int.le_refl _, by simp [totK], fun h => by cases h⟩
  | p :: r, h => by
    obtain ⟨a, b, c⟩ := tot_bnd (k := k) hB (F := r) fun z hz => h z (List.mem_cons_of_mem _ hz)
    have hp := h p List.mem_cons_self
    have e : totK (p :: r) k = (if k = p.1 then p.2 else 0) + totK r k := rfl
    have e2 : ((r.length + 1 : Nat) : Int) * B = (r.length : Int) * B + B := by
      rw [Int.natCast_add, Int.add_mul]
      simp
    rw [e, List.length_cons, e2]
    refine ⟨by split <;> omega, by split <;> omega, fun hk => ?_⟩
    rcases List.mem_cons.mp (show k ∈ p.1 :: keysT r from hk) with z | z
    · rw [if_pos z]; omega
    · have := c z
      split <;> omega
end DL
set_option Elab.async false
set_option linter.all false
set_option maxRecDepth 100000
set_option maxHeartbeats 4000000
/-! DL122: the room of a thing of a packing. -/
namespace DL
open PySem PySem.Spec PyProof.Rows L2
variable [TabsC]
/-- the room of the thing with a number among those of a size -/
def spotR (s : Int) : List PRun → Int → Int → Option Int
  | [], _, _ => none
  | (_, n, f) :: L, rest, a => if rest < n * cntT f s then some (a + rest / cntT f s) else spotR s L (rest - n * cntT f s) (a + n)
/-- things of a size ahead of a room -/
def aheadR (s : Int) : List PRun → Int → Int
  | [], _ => 0
  | (_, n, f) :: L, spot => min n (max 0 spot) * cntT f s + aheadR s L (spot - n)
/-- the filling of a room -/
def fillAt : List PRun → Int → Option Tab
  | [], _ => none
  | (_, n, f) :: L, spot => if spot < n then some f else fillAt L (spot - n)
theorem tot_cons (x : PRun) (L : List PRun) (s : Int) (hn : (keysT x.2.2).Nodup) : totK (flatP (x :: L)) s = x.2.1 * cntT x.2.2 s + totK (flatP L) s := by
  rw [flat_cons, tot_app]
  congr 1
  obtain ⟨r, n, f⟩ := x
  show totK (f.map fun q => (q.1, n * q.2)) s = n * cntT f s
  replace hn : (keysT f).Nodup := hn
  induction f with
  | nil => simp [totK, cntT, valT]
  | cons q l ih =>
    have hq := List.nodup_cons.mp (show (q.1 :: keysT l).Nodup from hn)
    have e : totK ((q :: l).map fun q => (q.1, n * q.2)) s = (if s = q.1 then n * q.2 else 0) + totK (l.map fun q => (q.1, n * q.2)) s := rfl
    rw [e, ih hq.2]
    by_cases h : s = q.1
    · subst h
      rw [if_pos rfl, cnt_out hq.1]
      have : cntT (q :: l) q.1 = q.2 := by unfold cntT valT; simp
      rw [this]; simp
    · rw [if_neg h]
      have : cntT (q :: l) s = cntT l s := by
        unfold cntT valT
        rw [List.find?_cons_of_neg (by simpa using fun z => h z.symm)]
      rw [this]; simp
theorem ahead_zero (s : Int) : ∀ (L : List PRun) (t : Int), t ≤ 0 → (∀ x, x ∈ L → 1 ≤ x.2.1) → aheadR s L t = 0
  | [], _, _, _ => rfl
  | (r, n, f) :: L, t, ht, h => by
    have h1 : 1 ≤ n := h (r, n, f) List.mem_cons_self
    show min n (max 0 t) * cntT f s + aheadR s L (t - n) = 0
    rw [ahead_zero s L (t - n) (by omega) fun x hx => h x (List.mem_cons_of_mem _ hx), show min n (max 0 t) = 0 by omega]
    simp
theorem spot_ok (s : Int) : ∀ {L : List PRun} {rest a : Int}, (∀ x, x ∈ L → 1 ≤ x.2.1 ∧ (keysT x.2.2).Nodup ∧ 0 ≤ cntT x.2.2 s) → 0 ≤ rest → rest < totK (flatP L) s →
    ∃ t, spotR s L rest a = some (a + t) ∧ 0 ≤ t ∧ aheadR s L t ≤ rest ∧ ∃ f, fillAt L t = some f ∧ rest < aheadR s L t + cntT f s
  | [], rest, a, _, h0, h1 => by
    have : totK (flatP []) s = 0 := rfl
    omega
  | (r, n, f) :: L, rest, a, h, h0, h1 => by
    obtain ⟨hn, hk, hc⟩ := h (r, n, f) List.mem_cons_self
    have hn : 1 ≤ n := hn
    have hc : 0 ≤ cntT f s := hc
    have h' := fun x hx => h x (List.mem_cons_of_mem (r, n, f) hx)
    rw [tot_cons (r, n, f) L s hk] at h1
    have h1 : rest < n * cntT f s + totK (flatP L) s := h1
    generalize hcc : cntT f s = c at hc h1
    unfold spotR
    rw [hcc]
    by_cases hl : rest < n * c
    · rw [if_pos hl]
      have cp : 0 < c := by
        rcases Int.lt_or_eq_of_le hc with z | z
        · exact z
        · rw [← z] at hl; simp at hl; omega
      have d0 : 0 ≤ rest / c := Int.ediv_nonneg h0 hc
      have d1 : rest / c < n := Int.ediv_lt_of_lt_mul cp hl
      have e1 := Int.mul_ediv_add_emod rest c
      have e2 := Int.emod_nonneg rest (Int.ne_of_gt cp)
      have e3 := Int.emod_lt_of_pos rest cp
      have ea : aheadR s ((r, n, f) :: L) (rest / c) = rest / c * c := by
        show min n (max 0 (rest / c)) * cntT f s + aheadR s L (rest / c - n) = _
        rw [hcc, ahead_zero s L _ (by omega) fun x hx => (h' x hx).1, show min n (max 0 (rest / c)) = rest / c by omega]
        simp
      rw [Int.mul_comm] at e1
      refine ⟨rest / c, rfl, d0, by rw [ea]; omega, f, ?_, by rw [ea, hcc]; omega⟩
      show (if rest / c < n then some f else _) = _
      rw [if_pos d1]
    · rw [if_neg hl]
      obtain ⟨t, h2, h3, h4, g, h5, h6⟩ := spot_ok s (a := a + n) h' (rest := rest - n * c) (by omega) (by omega)
      have ea : aheadR s ((r, n, f) :: L) (n + t) = n * c + aheadR s L t := by
        show min n (max 0 (n + t)) * cntT f s + aheadR s L (n + t - n) = _
        rw [hcc, show min n (max 0 (n + t)) = n by omega, show n + t - n = t by omega]
      refine ⟨n + t, by rw [h2, Int.add_assoc], by omega, by rw [ea]; omega, g, ?_, by rw [ea]; omega⟩
      show (if n + t < n then some f else fillAt L (n + t - n)) = _
      rw [if_neg (by omega), show n + t - n = t by omega, h5]
def numP (L : List PRun) : Int := (L.map fun x => x.2.1).sum
theorem ahead_app (s : Int) : ∀ (A B : List PRun) (t : Int), aheadR s (A ++ B) t = aheadR s A t + aheadR s B (t - numP A)
  | [], B, t => by simp [aheadR, numP]
  | (r, n, f) :: A, B, t => by
    show min n (max 0 t) * cntT f s + aheadR s (A ++ B) (t - n) = min n (max 0 t) * cntT f s + aheadR s A (t - n) + aheadR s B (t - (n + numP A))
    rw [ahead_app s A B (t - n), show t - n - numP A = t - (n + numP A) by omega]
    omega
theorem num_app (A B : List PRun) : numP (A ++ B) = numP A + numP B := by unfold numP; rw [List.map_append, List.sum_append]
theorem num_join (L : List PRun) : numP (joinR L) = numP L := by
  refine snocI (P := fun L => numP (joinR L) = numP L) rfl (fun L p ih => ?_) L
  rw [join_snoc, num_app, ← ih]
  rcases end_or (joinR L) with c | ⟨l, q, c⟩
  · rw [c, jstep_nil]; simp [numP]
  · rw [c, jstep_end]
    split
    · rw [num_app, num_app]
      simp [numP]
      omega
    · rw [num_app]
theorem ahead_join (s : Int) {L : List PRun} (h : ∀ x, x ∈ L → 1 ≤ x.2.1) (t : Int) : aheadR s (joinR L) t = aheadR s L t ∧ ∀ x, x ∈ joinR L → 1 ≤ x.2.1 := by
  refine snocI (P := fun L => (∀ x, x ∈ L → 1 ≤ x.2.1) → ∀ t, aheadR s (joinR L) t = aheadR s L t ∧ ∀ x, x ∈ joinR L → 1 ≤ x.2.1) (fun _ _ => ⟨rfl, fun x hx => by cases hx⟩) (fun L p ih h t => ?_) L h t
  have ih := ih fun x hx => h x (List.mem_append_left _ hx)
  have hp := h p (by simp)
  have nj := num_join L
  rw [join_snoc, ahead_app, ← (ih t).1]
  have ih2 := (ih t).2
  rcases end_or (joinR L) with c | ⟨l, q, c⟩
  · rw [c, jstep_nil]
    rw [c] at nj
    refine ⟨?_, fun x hx => by rw [List.mem_singleton] at hx; rw [hx]; exact hp⟩
    have : numP L = 0 := nj.symm
    rw [this]
    simp [aheadR]
  · rw [c] at ih2 nj ⊢
    rw [num_app] at nj
    have hq := ih2 q (by simp)
    rw [jstep_end]
    split
    · rename_i e
      refine ⟨?_, fun x hx => ?_⟩
      · rw [ahead_app, ahead_app, ← nj]
        obtain ⟨r, n, f⟩ := p
        obtain ⟨r0, n0, f0⟩ := q
        obtain ⟨rfl, rfl⟩ := e
        have hp : 1 ≤ n := hp
        have hq : 1 ≤ n0 := hq
        simp only [aheadR, numP, List.map_cons, List.map_nil, List.sum_cons, List.sum_nil]
        generalize (l.map fun x => x.2.1).sum = m
        generalize cntT f0 s = c
        rw [show min (n0 + n) (max 0 (t - m)) = min n0 (max 0 (t - m)) + min n (max 0 (t - (m + (n0 + 0)))) by omega, Int.add_mul]
        omega
      · rcases List.mem_append.mp hx with z | z
        · exact ih2 x (List.mem_append_left _ z)
        · rw [List.mem_singleton] at z
          rw [z]
          show 1 ≤ q.2.1 + p.2.1
          omega
    · refine ⟨?_, fun x hx => ?_⟩
      · rw [ahead_app (A := l ++ [q]), ← nj, num_app]
      · rcases List.mem_append.mp hx with z | z
        · exact ih2 x z
        · rw [List.mem_singleton] at z
          rw [z]; exact hp
end DL
set_option Elab.async false
set_option linter.all false
set_option maxRecDepth 100000
set_option maxHeartbeats 4000000
/-! DL123: the single rooms of a packing, and the rooms of its things one by one. -/
namespace DL
open PySem PySem.Spec PyProof.Rows L2
variable [TabsC]
/-- the run of a room -/
def runAt : List PRun → Int → Option PRun
  | [], _ => none
  | (r, n, f) :: L, spot => if spot < n then some (r, n, f) else runAt L (spot - n)
theorem fill_run : ∀ (L : List PRun) (t : Int), fillAt L t = (runAt L t).map fun x => x.2.2
  | [], _ => rfl
  | (r, n, f) :: L, t => by
    unfold fillAt runAt
    by_cases h : t < n
    · rw [if_pos h, if_pos h] <;> rfl
    · rw [if_neg h, if_neg h]; exact fill_run L _
theorem run_mem : ∀ {L : List PRun} {t : Int} {x : PRun}, runAt L t = some x → x ∈ L
  | [], _, _, h => by cases h
  | (r, n, f) :: L, t, x, h => by
    unfold runAt at h
    by_cases c : t < n
    · rw [if_pos c, Option.some.injEq] at h
      rw [← h]; exact List.mem_cons_self
    · rw [if_neg c] at h
      exact List.mem_cons_of_mem _ (run_mem h)
theorem numP_ge : ∀ {L : List PRun}, (∀ x, x ∈ L → 1 ≤ x.2.1) → (L.length : Int) ≤ numP L
  | [], _ => Int.le_refl _
  | x :: L, h => by
    have a := numP_ge fun y hy => h y (List.mem_cons_of_mem x hy)
    have b := h x List.mem_cons_self
    have e : numP (x :: L) = x.2.1 + numP L := rfl
    rw [e, List.length_cons]
    omega
theorem numP_le {M : Int} : ∀ {L : List PRun}, (∀ x, x ∈ L → x.2.1 ≤ M) → numP L ≤ (L.length : Int) * M
  | [], _ => by simp [numP]
  | x :: L, h => by
    have a := numP_le fun y hy => h y (List.mem_cons_of_mem x hy)
    have b := h x List.mem_cons_self
    have e : numP (x :: L) = x.2.1 + numP L := rfl
    rw [e, List.length_cons, Int.natCast_add, Int.add_mul]
    omega
theorem run_lt : ∀ {L : List PRun} {t : Int} {x : PRun}, (∀ x, x ∈ L → 1 ≤ x.2.1) → runAt L t = some x → t < numP L
  | [], _, _, _, h => by cases h
  | (r, n, f) :: L, t, x, hx, h => by
    unfold runAt at h
    have e : numP ((r, n, f) :: L) = n + numP L := rfl
    have h' := fun y hy => hx y (List.mem_cons_of_mem (r, n, f) hy)
    by_cases c : t < n
    · have := numP_ge h'
      omega
    · rw [if_neg c] at h
      have := run_lt h' h
      omega
def singR (L : List PRun) : List (Int × Tab) := L.flatMap fun x => List.replicate x.2.1.toNat (x.1, x.2.2)
def dueS (s : Int) : List (Int × Tab) → Int → List Int
  | [], _ => []
  | p :: S, a => List.replicate (cntT p.2 s).toNat a ++ dueS s S (a + 1)
theorem due_app (s : Int) : ∀ (A B : List (Int × Tab)) (a : Int), dueS s (A ++ B) a = dueS s A a ++ dueS s B (a + A.length)
  | [], B, a => by simp [dueS]
  | p :: A, B, a => by
    show List.replicate _ a ++ dueS s (A ++ B) (a + 1) = List.replicate _ a ++ dueS s A (a + 1) ++ dueS s B (a + (A.length + 1 : Nat))
    rw [due_app s A B (a + 1), List.append_assoc, show a + 1 + (A.length : Int) = a + ((A.length + 1 : Nat) : Int) by omega]
theorem due_rep (s : Int) (p : Int × Tab) (S : List (Int × Tab)) {c : Nat} (hc : (cntT p.2 s).toNat = c) : ∀ (n : Nat) (a : Int) (i : Nat), (dueS s (List.replicate n p ++ S) a)[i]? = if i < n * c then some (a + ((i / c : Nat) : Int)) else (dueS s S (a + n))[i - n * c]?
  | 0, a, i => by simp
  | n + 1, a, i => by
    rw [List.replicate_succ, List.cons_append]
    show (List.replicate (cntT p.2 s).toNat a ++ dueS s (List.replicate n p ++ S) (a + 1))[i]? = _
    rw [hc, List.getElem?_append, List.length_replicate, Nat.add_mul, Nat.one_mul]
    by_cases h : i < c
    · rw [if_pos h, List.getElem?_replicate, if_pos h, if_pos (by omega), Nat.div_eq_of_lt h]
      simp
    · rw [if_neg h, due_rep s p S hc n (a + 1) (i - c)]
      by_cases h2 : i < n * c + c
      · rw [if_pos (by omega), if_pos h2]
        have cp : 0 < c := by
          rcases Nat.eq_zero_or_pos c with z | z
          · subst z; simp at h2
          · exact z
        have e : i / c = (i - c) / c + 1 := Nat.div_eq_sub_div cp (by omega)
        rw [e]
        congr 1
        omega
      · rw [if_neg (by omega), if_neg h2, show i - c - n * c = i - (n * c + c) by omega, show a + 1 + (n : Int) = a + ((n + 1 : Nat) : Int) by omega]
theorem due_len (s : Int) (p : Int × Tab) (S : List (Int × Tab)) (a : Int) : ∀ n : Nat, (dueS s (List.replicate n p ++ S) a).length = n * (cntT p.2 s).toNat + (dueS s S a).length := by
  have sh : ∀ (S : List (Int × Tab)) (a b : Int), (dueS s S a).length = (dueS s S b).length := fun S => by
    induction S with
    | nil => exact fun _ _ => rfl
    | cons q S ih =>
      intro a b
      unfold dueS
      rw [List.length_append, List.length_append, List.length_replicate, List.length_replicate, ih (a + 1) (b + 1)]
  intro n
  induction n with
  | zero => simp
  | succ n ih =>
    rw [List.replicate_succ, List.cons_append]
    show (List.replicate (cntT p.2 s).toNat a ++ dueS s (List.replicate n p ++ S) (a + 1)).length = _
    rw [List.length_append, List.length_replicate, sh _ (a + 1) a, ih, Nat.add_mul]
    omega
theorem sing_cons (x : PRun) (L : List PRun) : singR (x :: L) = List.replicate x.2.1.toNat (x.1, x.2.2) ++ singR L := by unfold singR; rw [List.flatMap_cons]
theorem sing_snoc (x : PRun) (L : List PRun) : singR (L ++ [x]) = singR L ++ List.replicate x.2.1.toNat (x.1, x.2.2) := by
  unfold singR
  rw [List.flatMap_append, List.flatMap_cons, List.flatMap_nil, List.append_nil]
theorem spot_due (s : Int) : ∀ {L : List PRun} {i : Nat} {a : Int}, (∀ x, x ∈ L → 1 ≤ x.2.1 ∧ 0 ≤ cntT x.2.2 s) → (dueS s (singR L) a)[i]? = spotR s L i a
  | [], i, a, h => by simp [dueS, singR, spotR]
  | (r, n, f) :: L, i, a, h => by
    obtain ⟨hn, hc⟩ := h (r, n, f) List.mem_cons_self
    have hn : 1 ≤ n := hn
    have hc : 0 ≤ cntT f s := hc
    have h' := fun x hx => h x (List.mem_cons_of_mem (r, n, f) hx)
    rw [sing_cons]
    obtain ⟨m, rfl⟩ : ∃ m : Nat, n = m := ⟨n.toNat, by omega⟩
    obtain ⟨c, hcc⟩ : ∃ c : Nat, cntT f s = c := ⟨(cntT f s).toNat, by omega⟩
    show (dueS s (List.replicate (m : Int).toNat (r, f) ++ singR L) a)[i]? = _
    rw [Int.toNat_natCast, due_rep s (r, f) (singR L) (c := c) (by rw [hcc]; rfl)]
    unfold spotR
    rw [hcc]
    by_cases z : i < m * c
    · rw [if_pos z, if_pos (by exact_mod_cast z)]
      congr 1
    · rw [if_neg z, if_neg (by exact_mod_cast z), spot_due s h']
      congr 1
      have : m * c ≤ i := by omega
      rw [Int.ofNat_sub this]
      simp
theorem due_tot (s : Int) : ∀ {L : List PRun} (a : Int), (∀ x, x ∈ L → 1 ≤ x.2.1 ∧ (keysT x.2.2).Nodup ∧ 0 ≤ cntT x.2.2 s) → ((dueS s (singR L) a).length : Int) = totK (flatP L) s
  | [], a, h => rfl
  | (r, n, f) :: L, a, h => by
    obtain ⟨hn, hk, hc⟩ := h (r, n, f) List.mem_cons_self
    have hn : 1 ≤ n := hn
    have hc : 0 ≤ cntT f s := hc
    rw [tot_cons _ _ _ hk, sing_cons, due_len, ← due_tot s a fun x hx => h x (List.mem_cons_of_mem (r, n, f) hx)]
    show ((n.toNat * (cntT f s).toNat + _ : Nat) : Int) = n * cntT f s + _
    rw [Int.natCast_add, Int.natCast_mul, Int.toNat_of_nonneg (by omega), Int.toNat_of_nonneg hc]
theorem sing_join {L : List PRun} (h : ∀ x, x ∈ L → 1 ≤ x.2.1) : singR (joinR L) = singR L := by
  refine snocI (P := fun L => (∀ x, x ∈ L → 1 ≤ x.2.1) → singR (joinR L) = singR L) (fun _ => rfl) (fun L p ih h => ?_) L h
  have hL := fun x hx => h x (List.mem_append_left [p] hx)
  have ih := ih hL
  have hp := h p (by simp)
  have hj := (ahead_join 0 hL 0).2
  rw [join_snoc, sing_snoc, ← ih]
  rcases end_or (joinR L) with c | ⟨l, q, c⟩
  · rw [c, jstep_nil]; simp [singR]
  · rw [c] at hj ⊢
    have hq := hj q (by simp)
    rw [jstep_end]
    split
    · rename_i e
      rw [sing_snoc, sing_snoc, List.append_assoc]
      congr 1
      rw [e.1, e.2, List.replicate_append_replicate]
      congr 1
      show (q.2.1 + p.2.1).toNat = _
      omega
    · rw [sing_snoc]
def sgD (p : Int × Tab) : D := .tup [.int p.1, fillD p.2]
theorem due_snoc (s : Int) (S : List (Int × Tab)) (p : Int × Tab) : dueS s (S ++ [p]) 0 = dueS s S 0 ++ List.replicate (cntT p.2 s).toNat ((S.length : Nat) : Int) := by
  rw [due_app]
  simp [dueS]
theorem fill_nd {f : Tab} (h : fillOk f) : (keysT f).Nodup := asc_nodup h.2.2
theorem fill_cnt {f : Tab} (h : fillOk f) (s : Int) : 0 ≤ cntT f s ∧ cntT f s < 10 ^ 200 := by
  by_cases z : s ∈ keysT f
  · obtain ⟨p, hp, rfl⟩ := List.mem_map.mp z
    rw [cntT_mem (fill_nd h) hp]
    have := (h.2.1 p hp).2
    exact ⟨by omega, this.2⟩
  · rw [cnt_out z]; exact ⟨by decide, by decide +kernel⟩
theorem tab_get (f : Tab) (s : Int) : (valD (tabD f) (.inl s)).getD (.int 0) = .int (cntT f s) := by
  rw [valD_tab]
  unfold cntT
  cases valT f s <;> rfl
theorem cnt_le {f : Tab} (h : fillOk f) {m : Int} (hm : 0 ≤ m) (hp : ∀ p, p ∈ f → p.2 ≤ m) (s : Int) : cntT f s ≤ m := by
  by_cases z : s ∈ keysT f
  · obtain ⟨p, hp', rfl⟩ := List.mem_map.mp z
    rw [cntT_mem (fill_nd h) hp']
    exact hp p hp'
  · rw [cnt_out z]; exact hm
theorem sing_mem {L : List PRun} {p : Int × Tab} (h : p ∈ singR L) : ∃ x, x ∈ L ∧ p = (x.1, x.2.2) := by
  unfold singR at h
  obtain ⟨x, hx, hp⟩ := List.mem_flatMap.mp h
  exact ⟨x, hx, List.eq_of_mem_replicate hp⟩
theorem due_few (s : Int) {m : Nat} : ∀ {S : List (Int × Tab)} {a : Int}, (∀ p, p ∈ S → cntT p.2 s ≤ m) → (dueS s S a).length ≤ S.length * m
  | [], a, h => by simp [dueS]
  | p :: S, a, h => by
    unfold dueS
    rw [List.length_append, List.length_replicate, List.length_cons, Nat.add_mul]
    have := h p List.mem_cons_self
    have := due_few s (S := S) (a := a + 1) fun q hq => h q (List.mem_cons_of_mem p hq)
    omega
theorem join_prok {M : List PRun} (hM : M.length ≤ 40) (h : ∀ x, x ∈ M → prOk x ∧ x.2.1 ≤ 10 ^ 150) : ∀ x, x ∈ joinR M → prOk x := fun x hx' => by
  have := join_ok (M := 10 ^ 150) (by decide +kernel) (fun x hx => ⟨⟨(h x hx).1.1.1, (h x hx).1.1.2.1, (h x hx).2⟩, (h x hx).1.2⟩) x hx'
  refine ⟨⟨this.1.1, this.1.2.1, Int.lt_of_le_of_lt this.1.2.2 ?_⟩, this.2⟩
  have m : (M.length : Int) * 10 ^ 150 ≤ 40 * 10 ^ 150 := Int.mul_le_mul_of_nonneg_right (by omega) (by decide +kernel)
  exact Int.lt_of_le_of_lt m (by decide +kernel)
theorem due_list {l : List Int} {g : D → D} (h : ∀ i : Nat, ∀ t, l[i]? = some t → g (.int i) = .int t) : (rangeD 0 l.length).map g = l.map .int := by
  refine List.ext_getElem? fun i => ?_
  rw [List.getElem?_map, List.getElem?_map]
  by_cases hi : i < l.length
  · have e : l[i]? = some l[i] := List.getElem?_eq_getElem hi
    have e2 : (rangeD 0 l.length)[i]? = some ((rangeD 0 l.length)[i]'(by rw [rangeD_length]; exact hi)) := List.getElem?_eq_getElem _
    obtain ⟨_, e3⟩ := rangeD_get e2
    rw [e2, e3, e]
    show some (g (.int (0 + (i : Int)))) = some (.int l[i])
    rw [Int.zero_add, h i _ e]
  · rw [List.getElem?_eq_none (by rw [rangeD_length]; omega), List.getElem?_eq_none (by omega)]
    rfl
theorem sing_len : ∀ {L : List PRun} {M : Nat}, (∀ x, x ∈ L → x.2.1 ≤ M) → (singR L).length ≤ L.length * M
  | [], M, h => by simp [singR]
  | x :: L, M, h => by
    rw [sing_cons, List.length_append, List.length_replicate, List.length_cons, Nat.add_mul]
    have := sing_len fun y hy => h y (List.mem_cons_of_mem x hy)
    have := h x List.mem_cons_self
    omega
end DL
set_option Elab.async false
set_option linter.all false
set_option maxRecDepth 100000
set_option maxHeartbeats 4000000
/-! DL124: list(o) of a class with one slot whose __iter__ gives iter(self.slot). -/
namespace DL
open PySem PySem.Spec PyProof.Rows L2
variable [TabsC]
def mListS (n : Str) (mL : FM) (ma : TM) : TM := fun δ Q E => ma δ (fun a => ∃ w : D, a = .sob n w ∧ mL [a] (fun r => ∃ i : Int, r = .int i ∧ 0 ≤ i ∧ i < 2 ^ 24) NoE ∧ srcD w fun ds => Q (.list ds)) E
end DL
set_option Elab.async false
set_option linter.all false
set_option maxRecDepth 100000
set_option maxHeartbeats 4000000
namespace DL.Law
open DL
open PySem PySem.Spec PyProof.Rows L2
abbrev owns : List Str := []
def top (i : Nat) : Stmt := PySem.Challenge.pw_chainpacks_k23_whole_things_in_packings.main.body.getD i (.Pass ⟨0, 0, 0, 0⟩)
abbrev s_is_integer : Stmt := top 3
abbrev s_is_size : Stmt := top 5
abbrev s_is_filling : Stmt := top 16
abbrev s_load_in : Stmt := top 17
abbrev s_is_run : Stmt := top 18
abbrev s_joined_runs : Stmt := top 19
abbrev s_rooms_in : Stmt := top 20
abbrev s_sizes_in : Stmt := top 21
abbrev s_Packing_init : Stmt := (inClass (top 22) 1)
abbrev s_Packing_things : Stmt := (inClass (top 22) 5)
abbrev s_is_count : Stmt := top 4
abbrev s_is_index : Stmt := top 15
abbrev s_Packing_spot_of : Stmt := (inClass (top 22) 14)
abbrev s_law_dice : Stmt := top 24
abbrev s_law_filling_of : Stmt := top 29
abbrev s_law_roll : Stmt := top 25
abbrev s_law_drawn_filling : Stmt := top 30
abbrev s_law_load : Stmt := top 28
abbrev s_law_pick : Stmt := top 26
abbrev s_law_drawn_runs : Stmt := top 31
abbrev s_Packing_joined : Stmt := (inClass (top 22) 15)
abbrev s_law_made_packing : Stmt := top 32
abbrev s_law_single : Stmt := top 33
abbrev s_law_chain : Stmt := top 27
abbrev s_law_sizes_any : Stmt := top 35
abbrev s_law_things_of : Stmt := top 34
abbrev s_law_few_right : Stmt := top 36
abbrev s_Packing_number : Stmt := (inClass (top 22) 8)
abbrev s_Packing_run_at : Stmt := (inClass (top 22) 11)
abbrev s_Packing_room_at : Stmt := (inClass (top 22) 12)
abbrev s_law_great_right : Stmt := top 37
abbrev s_law : Stmt := top 38
def fd0 : DL.FD := ⟨fun K => (He.ma K (He.ga K "InvalidNumber") "__init__"), "__init__", "InvalidNumber.__init__", (xA "value" ⟨23, 17, 23, 21⟩ ⟨23, 23, 23, 28⟩), (xB "value" ⟨24, 8, 24, 12⟩ ⟨24, 8, 24, 18⟩ ⟨24, 21, 24, 26⟩ ⟨24, 8, 24, 26⟩), (xS "value")⟩
def fd1 : DL.FD := ⟨fun K => (He.ma K (He.ga K "NoRoom") "__init__"), "__init__", "NoRoom.__init__", (xA "size" ⟨19, 17, 19, 21⟩ ⟨19, 23, 19, 27⟩), (xB "size" ⟨20, 8, 20, 12⟩ ⟨20, 8, 20, 17⟩ ⟨20, 20, 20, 24⟩ ⟨20, 8, 20, 24⟩), (xS "size")⟩
def fd2 : DL.FD := ⟨fun K => (He.ga K "is_integer"), "is_integer", "is_integer", (defArgs s_is_integer), (defBody s_is_integer), (defScope s_is_integer)⟩
def fd3 : DL.FD := ⟨fun K => (He.ga K "is_size"), "is_size", "is_size", (defArgs s_is_size), (defBody s_is_size), (defScope s_is_size)⟩
def fd4 : DL.FD := ⟨fun K => (He.ga K "is_filling"), "is_filling", "is_filling", (defArgs s_is_filling), (defBody s_is_filling), (defScope s_is_filling)⟩
def fd5 : DL.FD := ⟨fun K => (He.ga K "load_in"), "load_in", "load_in", (defArgs s_load_in), (defBody s_load_in), (defScope s_load_in)⟩
def fd6 : DL.FD := ⟨fun K => (He.ga K "is_run"), "is_run", "is_run", (defArgs s_is_run), (defBody s_is_run), (defScope s_is_run)⟩
def fd7 : DL.FD := ⟨fun K => (He.ga K "joined_runs"), "joined_runs", "joined_runs", (defArgs s_joined_runs), (defBody s_joined_runs), (defScope s_joined_runs)⟩
def fd8 : DL.FD := ⟨fun K => (He.ga K "rooms_in"), "rooms_in", "rooms_in", (defArgs s_rooms_in), (defBody s_rooms_in), (defScope s_rooms_in)⟩
def fd9 : DL.FD := ⟨fun K => (He.ga K "sizes_in"), "sizes_in", "sizes_in", (defArgs s_sizes_in), (defBody s_sizes_in), (defScope s_sizes_in)⟩
def fd10 : DL.FD := ⟨fun K => (He.ma K (He.ga K "Packing") "__init__"), "__init__", "Packing.__init__", (defArgs s_Packing_init), (defBody s_Packing_init), (defScope s_Packing_init)⟩
def fd11 : DL.FD := ⟨fun K => (He.ma K (He.ga K "Packing") "things"), "things", "Packing.things", (defArgs s_Packing_things), (defBody s_Packing_things), (defScope s_Packing_things)⟩
def fd12 : DL.FD := ⟨fun K => (He.ga K "is_count"), "is_count", "is_count", (defArgs s_is_count), (defBody s_is_count), (defScope s_is_count)⟩
def fd13 : DL.FD := ⟨fun K => (He.ga K "is_index"), "is_index", "is_index", (defArgs s_is_index), (defBody s_is_index), (defScope s_is_index)⟩
def fd14 : DL.FD := ⟨fun K => (He.ma K (He.ga K "Packing") "spot_of"), "spot_of", "Packing.spot_of", (defArgs s_Packing_spot_of), (defBody s_Packing_spot_of), (defScope s_Packing_spot_of)⟩
def fd15 : DL.FD := ⟨fun K => (He.ga K "_law_dice"), "_law_dice", "_law_dice", (defArgs s_law_dice), (defBody s_law_dice), (defScope s_law_dice)⟩
def fd16 : DL.FD := ⟨fun K => (He.ga K "_law_filling_of"), "_law_filling_of", "_law_filling_of", (defArgs s_law_filling_of), (defBody s_law_filling_of), (defScope s_law_filling_of)⟩
def fd17 : DL.FD := ⟨fun K => (He.ga K "_law_roll"), "_law_roll", "_law_roll", (defArgs s_law_roll), (defBody s_law_roll), (defScope s_law_roll)⟩
def fd18 : DL.FD := ⟨fun K => (He.ga K "_law_drawn_filling"), "_law_drawn_filling", "_law_drawn_filling", (defArgs s_law_drawn_filling), (defBody s_law_drawn_filling), (defScope s_law_drawn_filling)⟩
def fd19 : DL.FD := ⟨fun K => (He.ga K "_law_load"), "_law_load", "_law_load", (defArgs s_law_load), (defBody s_law_load), (defScope s_law_load)⟩
def fd20 : DL.FD := ⟨fun K => (He.ga K "_law_pick"), "_law_pick", "_law_pick", (defArgs s_law_pick), (defBody s_law_pick), (defScope s_law_pick)⟩
def fd21 : DL.FD := ⟨fun K => (He.ga K "_law_drawn_runs"), "_law_drawn_runs", "_law_drawn_runs", (defArgs s_law_drawn_runs), (defBody s_law_drawn_runs), (defScope s_law_drawn_runs)⟩
def fd22 : DL.FD := ⟨fun K => (He.ma K (He.ga K "Packing") "joined"), "joined", "Packing.joined", (defArgs s_Packing_joined), (defBody s_Packing_joined), (defScope s_Packing_joined)⟩
def fd23 : DL.FD := ⟨fun K => (He.ga K "_law_made_packing"), "_law_made_packing", "_law_made_packing", (defArgs s_law_made_packing), (defBody s_law_made_packing), (defScope s_law_made_packing)⟩
def fd24 : DL.FD := ⟨fun K => (He.ga K "_law_single"), "_law_single", "_law_single", (defArgs s_law_single), (defBody s_law_single), (defScope s_law_single)⟩
def fd25 : DL.FD := ⟨fun K => (He.ga K "_law_chain"), "_law_chain", "_law_chain", (defArgs s_law_chain), (defBody s_law_chain), (defScope s_law_chain)⟩
def fd26 : DL.FD := ⟨fun K => (He.ga K "_law_sizes_any"), "_law_sizes_any", "_law_sizes_any", (defArgs s_law_sizes_any), (defBody s_law_sizes_any), (defScope s_law_sizes_any)⟩
def fd27 : DL.FD := ⟨fun K => (He.ga K "_law_things_of"), "_law_things_of", "_law_things_of", (defArgs s_law_things_of), (defBody s_law_things_of), (defScope s_law_things_of)⟩
def fd28 : DL.FD := ⟨fun K => (He.ga K "_law_few_right"), "_law_few_right", "_law_few_right", (defArgs s_law_few_right), (defBody s_law_few_right), (defScope s_law_few_right)⟩
def fd29 : DL.FD := ⟨fun K => (DL.pfOf K (He.ma K (He.ga K "Packing") "number")), "number", "Packing.number", (defArgs s_Packing_number), (defBody s_Packing_number), (defScope s_Packing_number)⟩
def fd30 : DL.FD := ⟨fun K => (He.ma K (He.ga K "Packing") "run_at"), "run_at", "Packing.run_at", (defArgs s_Packing_run_at), (defBody s_Packing_run_at), (defScope s_Packing_run_at)⟩
def fd31 : DL.FD := ⟨fun K => (He.ma K (He.ga K "Packing") "room_at"), "room_at", "Packing.room_at", (defArgs s_Packing_room_at), (defBody s_Packing_room_at), (defScope s_Packing_room_at)⟩
def fd32 : DL.FD := ⟨fun K => (He.ga K "_law_great_right"), "_law_great_right", "_law_great_right", (defArgs s_law_great_right), (defBody s_law_great_right), (defScope s_law_great_right)⟩
def fd33 : DL.FD := ⟨fun K => (He.ga K "law"), "law", "law", (defArgs s_law), (defBody s_law), (defScope s_law)⟩
def FNS : List DL.FD := [fd0, fd1, fd2, fd3, fd4, fd5, fd6, fd7, fd8, fd9, fd10, fd11, fd12, fd13, fd14, fd15, fd16, fd17, fd18, fd19, fd20, fd21, fd22, fd23, fd24, fd25, fd26, fd27, fd28, fd29, fd30, fd31, fd32, fd33]
def EX0 (K : PySem.W.Frag) : List Bool := [
  decide (PySem.W.nsIn K mainGlobals "Packing" = some (some (.ref (He.ga K "Packing")))),
  PySem.W.plainGet K (He.ga K "Packing") Str.empty,
  PySem.W.isClsIn K (He.ga K "Packing"),
  PySem.W.plainOver K (He.ga K "Packing"),
  decide (PySem.W.findIn K (.ref (He.ga K "Packing")) "__setattr__" = some (some (.builtin "object.__setattr__"))),
  decide (PySem.W.findIn K (.ref (He.ga K "Packing")) "own_runs" = some (some (.ref (He.ma K (He.ga K "Packing") "own_runs")))),
  decide (PySem.W.specialIn K (.ref (He.ma K (He.ga K "Packing") "own_runs")) "__get__" = some (some (.builtin "member_descriptor.__get__"))),
  decide (PySem.W.takesIn K (.ref (He.ma K (He.ga K "Packing") "own_runs")) = some true),
  decide (PySem.W.typeIn K (.ref (He.ma K (He.ga K "Packing") "own_runs")) = some (.type "member_descriptor")),
  decide (PySem.W.slotIn K (He.ma K (He.ga K "Packing") "own_runs") (He.ga K "Packing") = some 0),
  decide (PySem.W.findIn K (.ref (He.ga K "Packing")) "__class__" = some (some (.builtin "object.__class__"))),
  decide (PySem.W.specialIn K (.builtin "object.__class__") "__get__" = some (some (.builtin "getset_descriptor.__get__"))),
  decide (PySem.W.takesIn K (.builtin "object.__class__") = some true),
  decide (PySem.W.mroIn K (He.ga K "Packing") (.type "object") = some true),
  kitAll K (He.ga K "Packing"),
  (([] : List (Str × Addr)).all fun p => ([] : List (Str × Addr)).all fun q => decide (PySem.W.kitOne K (.ref p.2) (.ref q.2) = some (decide (p.1 = q.1)))),
  (([] : List (Str × Addr)).all fun p => insTyB K p.2),
  (([] : List (Str × Addr)).all fun p => kitBack K p.2),
  (([("Packing", (He.ga K "Packing"))] : List (Str × Addr)).all fun p => ([("Packing", (He.ga K "Packing"))] : List (Str × Addr)).all fun q => decide (PySem.W.kitOne K (.ref p.2) (.ref q.2) = some (decide (p.1 = q.1)))),
  decide (PySem.W.nsIn K mainGlobals "InvalidNumber" = some (some (.ref (He.ga K "InvalidNumber")))),
  DL.xcB K (He.ga K "InvalidNumber") [.type "IndexError", .type "LookupError", .type "Exception", .type "BaseException", .type "object"] "IndexError.__new__",
  decide (PySem.W.findIn K (.ref (He.ga K "InvalidNumber")) "__setattr__" = some (some (.builtin "object.__setattr__"))),
  decide (PySem.W.findIn K (.ref (He.ga K "InvalidNumber")) "__getattribute__" = some (some (.builtin "BaseException.__getattribute__"))),
  decide (PySem.W.findIn K (.ref (He.ga K "InvalidNumber")) "__getattr__" = some none),
  decide (PySem.W.findIn K (.ref (He.ga K "InvalidNumber")) "value" = some none),
  decide (PySem.W.findIn K (.ref (He.ga K "InvalidNumber")) "__init__" = some (some (.ref (He.ma K (He.ga K "InvalidNumber") "__init__")))),
  decide (PySem.W.typeIn K (.ref (He.ma K (He.ga K "InvalidNumber") "__init__")) = some (.type "function")),
  PySem.W.keepIn K (.ref (He.ga K "InvalidNumber")),
  decide (PySem.W.subIn K (.ref (He.ga K "InvalidNumber")) (.type "BaseException") = some true),
  decide (PySem.W.typeIn K (.ref (He.ga K "InvalidNumber")) = some (.type "type")),
  PySem.W.hasDictIn K (He.ga K "InvalidNumber"),
  DL.fnBx K (He.ma K (He.ga K "InvalidNumber") "__init__") "InvalidNumber.__init__",
  decide (PySem.W.nsIn K mainGlobals "InvalidPacking" = some (some (.ref (He.ga K "InvalidPacking")))),
  PySem.W.excIn K (He.ga K "InvalidPacking") [.type "ValueError", .type "Exception", .type "BaseException", .type "object"] "ValueError.__new__",
  PySem.W.keepIn K (.ref (He.ga K "InvalidPacking")),
  decide (PySem.W.subIn K (.ref (He.ga K "InvalidPacking")) (.type "BaseException") = some true),
  decide (PySem.W.typeIn K (.ref (He.ga K "InvalidPacking")) = some (.type "type")),
  decide (PySem.W.nsIn K mainGlobals "NoRoom" = some (some (.ref (He.ga K "NoRoom")))),
  DL.xcB K (He.ga K "NoRoom") [.type "LookupError", .type "Exception", .type "BaseException", .type "object"] "LookupError.__new__",
  decide (PySem.W.findIn K (.ref (He.ga K "NoRoom")) "__setattr__" = some (some (.builtin "object.__setattr__")))]
def EX1 (K : PySem.W.Frag) : List Bool := [
  decide (PySem.W.findIn K (.ref (He.ga K "NoRoom")) "__getattribute__" = some (some (.builtin "BaseException.__getattribute__"))),
  decide (PySem.W.findIn K (.ref (He.ga K "NoRoom")) "__getattr__" = some none),
  decide (PySem.W.findIn K (.ref (He.ga K "NoRoom")) "size" = some none),
  decide (PySem.W.findIn K (.ref (He.ga K "NoRoom")) "__init__" = some (some (.ref (He.ma K (He.ga K "NoRoom") "__init__")))),
  decide (PySem.W.typeIn K (.ref (He.ma K (He.ga K "NoRoom") "__init__")) = some (.type "function")),
  PySem.W.keepIn K (.ref (He.ga K "NoRoom")),
  decide (PySem.W.subIn K (.ref (He.ga K "NoRoom")) (.type "BaseException") = some true),
  decide (PySem.W.typeIn K (.ref (He.ga K "NoRoom")) = some (.type "type")),
  PySem.W.hasDictIn K (He.ga K "NoRoom"),
  DL.fnBx K (He.ma K (He.ga K "NoRoom") "__init__") "NoRoom.__init__",
  decide (PySem.W.nsIn K mainGlobals "is_integer" = some (some (.ref (He.ga K "is_integer")))),
  DL.fnB0 K (He.ga K "is_integer") "is_integer",
  PySem.W.keepIn K (.ref (He.ga K "is_integer")),
  decide (PySem.W.nsIn K mainGlobals "is_size" = some (some (.ref (He.ga K "is_size")))),
  DL.fnB0 K (He.ga K "is_size") "is_size",
  PySem.W.keepIn K (.ref (He.ga K "is_size")),
  decide (PySem.W.nsIn K mainGlobals "is_filling" = some (some (.ref (He.ga K "is_filling")))),
  DL.fnB0 K (He.ga K "is_filling") "is_filling",
  PySem.W.keepIn K (.ref (He.ga K "is_filling")),
  decide (PySem.W.nsIn K mainGlobals "load_in" = some (some (.ref (He.ga K "load_in")))),
  DL.fnB0 K (He.ga K "load_in") "load_in",
  PySem.W.keepIn K (.ref (He.ga K "load_in")),
  decide (PySem.W.nsIn K mainGlobals "is_run" = some (some (.ref (He.ga K "is_run")))),
  DL.fnB0 K (He.ga K "is_run") "is_run",
  PySem.W.keepIn K (.ref (He.ga K "is_run")),
  decide (PySem.W.nsIn K mainGlobals "joined_runs" = some (some (.ref (He.ga K "joined_runs")))),
  DL.fnB0 K (He.ga K "joined_runs") "joined_runs",
  PySem.W.keepIn K (.ref (He.ga K "joined_runs")),
  decide (PySem.W.nsIn K mainGlobals "rooms_in" = some (some (.ref (He.ga K "rooms_in")))),
  DL.fnB0 K (He.ga K "rooms_in") "rooms_in",
  PySem.W.keepIn K (.ref (He.ga K "rooms_in")),
  decide (PySem.W.nsIn K mainGlobals "sizes_in" = some (some (.ref (He.ga K "sizes_in")))),
  DL.fnB0 K (He.ga K "sizes_in") "sizes_in",
  PySem.W.keepIn K (.ref (He.ga K "sizes_in")),
  decide (PySem.W.findIn K (.ref (He.ga K "Packing")) "__init__" = some (some (.ref (He.ma K (He.ga K "Packing") "__init__")))),
  PySem.W.isFn K (.ref (He.ma K (He.ga K "Packing") "__init__")),
  PySem.W.makesIn K (He.ga K "Packing"),
  PySem.W.keepIn K (.ref (He.ga K "Packing")),
  DL.fnB0 K (He.ma K (He.ga K "Packing") "__init__") "Packing.__init__",
  PySem.W.keepIn K (.ref (He.ma K (He.ga K "Packing") "__init__"))]
def EX2 (K : PySem.W.Frag) : List Bool := [
  decide (PySem.W.findIn K (.ref (He.ga K "Packing")) "things" = some (some (.ref (He.ma K (He.ga K "Packing") "things")))),
  PySem.W.isFn K (.ref (He.ma K (He.ga K "Packing") "things")),
  DL.fnB0 K (He.ma K (He.ga K "Packing") "things") "Packing.things",
  PySem.W.keepIn K (.ref (He.ma K (He.ga K "Packing") "things")),
  decide (PySem.W.nsIn K mainGlobals "is_count" = some (some (.ref (He.ga K "is_count")))),
  DL.fnB0 K (He.ga K "is_count") "is_count",
  PySem.W.keepIn K (.ref (He.ga K "is_count")),
  decide (PySem.W.nsIn K mainGlobals "is_index" = some (some (.ref (He.ga K "is_index")))),
  DL.fnB0 K (He.ga K "is_index") "is_index",
  PySem.W.keepIn K (.ref (He.ga K "is_index")),
  decide (PySem.W.findIn K (.ref (He.ga K "Packing")) "spot_of" = some (some (.ref (He.ma K (He.ga K "Packing") "spot_of")))),
  PySem.W.isFn K (.ref (He.ma K (He.ga K "Packing") "spot_of")),
  DL.fnB0 K (He.ma K (He.ga K "Packing") "spot_of") "Packing.spot_of",
  PySem.W.keepIn K (.ref (He.ma K (He.ga K "Packing") "spot_of")),
  decide (PySem.W.nsIn K mainGlobals "_law_dice" = some (some (.ref (He.ga K "_law_dice")))),
  DL.fnB0 K (He.ga K "_law_dice") "_law_dice",
  PySem.W.keepIn K (.ref (He.ga K "_law_dice")),
  decide (PySem.W.nsIn K mainGlobals "_law_filling_of" = some (some (.ref (He.ga K "_law_filling_of")))),
  DL.fnB0 K (He.ga K "_law_filling_of") "_law_filling_of",
  PySem.W.keepIn K (.ref (He.ga K "_law_filling_of")),
  decide (PySem.W.nsIn K mainGlobals "_law_roll" = some (some (.ref (He.ga K "_law_roll")))),
  DL.fnB0 K (He.ga K "_law_roll") "_law_roll",
  PySem.W.keepIn K (.ref (He.ga K "_law_roll")),
  decide (PySem.W.nsIn K mainGlobals "_law_drawn_filling" = some (some (.ref (He.ga K "_law_drawn_filling")))),
  DL.fnB0 K (He.ga K "_law_drawn_filling") "_law_drawn_filling",
  PySem.W.keepIn K (.ref (He.ga K "_law_drawn_filling")),
  decide (PySem.W.nsIn K mainGlobals "_law_load" = some (some (.ref (He.ga K "_law_load")))),
  DL.fnB0 K (He.ga K "_law_load") "_law_load",
  PySem.W.keepIn K (.ref (He.ga K "_law_load")),
  decide (PySem.W.nsIn K mainGlobals "_law_pick" = some (some (.ref (He.ga K "_law_pick")))),
  DL.fnB0 K (He.ga K "_law_pick") "_law_pick",
  PySem.W.keepIn K (.ref (He.ga K "_law_pick")),
  decide (PySem.W.nsIn K mainGlobals "_law_drawn_runs" = some (some (.ref (He.ga K "_law_drawn_runs")))),
  DL.fnB0 K (He.ga K "_law_drawn_runs") "_law_drawn_runs",
  PySem.W.keepIn K (.ref (He.ga K "_law_drawn_runs")),
  decide (PySem.W.findIn K (.ref (He.ga K "Packing")) "joined" = some (some (.ref (He.ma K (He.ga K "Packing") "joined")))),
  PySem.W.isFn K (.ref (He.ma K (He.ga K "Packing") "joined")),
  DL.fnB0 K (He.ma K (He.ga K "Packing") "joined") "Packing.joined",
  PySem.W.keepIn K (.ref (He.ma K (He.ga K "Packing") "joined")),
  decide (PySem.W.nsIn K mainGlobals "_law_made_packing" = some (some (.ref (He.ga K "_law_made_packing"))))]
def EX3 (K : PySem.W.Frag) : List Bool := [
  DL.fnB0 K (He.ga K "_law_made_packing") "_law_made_packing",
  PySem.W.keepIn K (.ref (He.ga K "_law_made_packing")),
  decide (PySem.W.nsIn K mainGlobals "_law_single" = some (some (.ref (He.ga K "_law_single")))),
  DL.fnB0 K (He.ga K "_law_single") "_law_single",
  PySem.W.keepIn K (.ref (He.ga K "_law_single")),
  decide (PySem.W.nsIn K mainGlobals "_law_chain" = some (some (.ref (He.ga K "_law_chain")))),
  DL.fnB0 K (He.ga K "_law_chain") "_law_chain",
  PySem.W.keepIn K (.ref (He.ga K "_law_chain")),
  decide (PySem.W.nsIn K mainGlobals "_law_sizes_any" = some (some (.ref (He.ga K "_law_sizes_any")))),
  DL.fnB0 K (He.ga K "_law_sizes_any") "_law_sizes_any",
  PySem.W.keepIn K (.ref (He.ga K "_law_sizes_any")),
  decide (PySem.W.nsIn K mainGlobals "_law_things_of" = some (some (.ref (He.ga K "_law_things_of")))),
  DL.fnB0 K (He.ga K "_law_things_of") "_law_things_of",
  PySem.W.keepIn K (.ref (He.ga K "_law_things_of")),
  decide (PySem.W.nsIn K mainGlobals "_law_few_right" = some (some (.ref (He.ga K "_law_few_right")))),
  DL.fnB0 K (He.ga K "_law_few_right") "_law_few_right",
  PySem.W.keepIn K (.ref (He.ga K "_law_few_right")),
  decide (PySem.W.findIn K (.ref (He.ga K "Packing")) "number" = some (some (.ref (He.ma K (He.ga K "Packing") "number")))),
  decide (PySem.W.specialIn K (.ref (He.ma K (He.ga K "Packing") "number")) "__get__" = some (some (.builtin "property.__get__"))),
  decide (PySem.W.takesIn K (.ref (He.ma K (He.ga K "Packing") "number")) = some true),
  DL.pfB K (He.ma K (He.ga K "Packing") "number"),
  DL.fnB0 K (DL.pfOf K (He.ma K (He.ga K "Packing") "number")) "Packing.number",
  PySem.W.keepIn K (.ref (DL.pfOf K (He.ma K (He.ga K "Packing") "number"))),
  decide (PySem.W.findIn K (.ref (He.ga K "Packing")) "run_at" = some (some (.ref (He.ma K (He.ga K "Packing") "run_at")))),
  PySem.W.isFn K (.ref (He.ma K (He.ga K "Packing") "run_at")),
  DL.fnB0 K (He.ma K (He.ga K "Packing") "run_at") "Packing.run_at",
  PySem.W.keepIn K (.ref (He.ma K (He.ga K "Packing") "run_at")),
  decide (PySem.W.findIn K (.ref (He.ga K "Packing")) "room_at" = some (some (.ref (He.ma K (He.ga K "Packing") "room_at")))),
  PySem.W.isFn K (.ref (He.ma K (He.ga K "Packing") "room_at")),
  DL.fnB0 K (He.ma K (He.ga K "Packing") "room_at") "Packing.room_at",
  PySem.W.keepIn K (.ref (He.ma K (He.ga K "Packing") "room_at")),
  decide (PySem.W.nsIn K mainGlobals "_law_great_right" = some (some (.ref (He.ga K "_law_great_right")))),
  DL.fnB0 K (He.ga K "_law_great_right") "_law_great_right",
  PySem.W.keepIn K (.ref (He.ga K "_law_great_right")),
  decide (PySem.W.nsIn K mainGlobals "law" = some (some (.ref (He.ga K "law")))),
  DL.fnB0 K (He.ga K "law") "law",
  PySem.W.keepIn K (.ref (He.ga K "law")),
  decide (PySem.W.nsIn K mainGlobals "abs" = some none),
  decide (PySem.W.nsIn K mainGlobals "all" = some none),
  decide (PySem.W.nsIn K mainGlobals "bool" = some none)]
def EX4 (K : PySem.W.Frag) : List Bool := [
  decide (PySem.W.nsIn K mainGlobals "dict" = some none),
  decide (PySem.W.nsIn K mainGlobals "enumerate" = some none),
  decide (PySem.W.nsIn K mainGlobals "int" = some none),
  decide (PySem.W.nsIn K mainGlobals "isinstance" = some none),
  decide (PySem.W.nsIn K mainGlobals "len" = some none),
  decide (PySem.W.nsIn K mainGlobals "list" = some none),
  decide (PySem.W.nsIn K mainGlobals "max" = some none),
  decide (PySem.W.nsIn K mainGlobals "min" = some none),
  decide (PySem.W.nsIn K mainGlobals "range" = some none),
  decide (PySem.W.nsIn K mainGlobals "set" = some none),
  decide (PySem.W.nsIn K mainGlobals "sorted" = some none),
  decide (PySem.W.nsIn K mainGlobals "sum" = some none),
  decide (PySem.W.nsIn K mainGlobals "tuple" = some none),
  decide (PySem.W.nsIn K mainGlobals "zip" = some none),
  DL.ciB K "LIMIT" 100000000000000000000000000000000000000000000000000000000000000000000000000000000000000000000000000000000000000000000000000000000000000000000000000000000000000000000000000000000000000000000000000000000,
  DL.ciB K "MAX_RUNS" 2000,
  DL.ciB K "MAX_SIZES" 12,
  DL.ciB K "MAX_STORE" 40]
def EX (K : PySem.W.Frag) : List Bool := (EX0 K ++ (EX1 K ++ (EX2 K ++ (EX3 K ++ (EX4 K
 ++ [])))))
def loose0 : List Str := ["_wall", "LIMIT", "is_integer", "is_count", "is_size", "PackError", "InvalidPacking", "NoRoom", "InvalidNumber", "MAX_RUNS", "MAX_STORE", "MAX_SIZES", "is_index", "is_filling", "load_in", "is_run", "joined_runs", "rooms_in", "sizes_in", "Packing", "_law_dice", "_law_roll", "_law_pick", "_law_chain", "_law_load", "_law_filling_of", "_law_drawn_filling", "_law_drawn_runs", "_law_made_packing", "_law_single"]
def loose1 : List Str := ["_law_things_of", "_law_sizes_any", "_law_few_right", "_law_great_right"]
def loose : List Str := loose0 ++ loose1
abbrev RR : PySem.W.OpenRow := PySem.W.OpenLaw.row PySem.Challenge.rw_chainpacks_k23_whole_things_in_packings
abbrev hk : PySem.W.Hook := DL.hookM 0 FNS EX
theorem run (w : World) : HandSHeadRun.RunEq RR (PySem.W.view RR.prog [38]) hk (DL.obM 0 FNS EX) 40000 loose w := by
  intro os
  kernel_rfl
end DL.Law
set_option Elab.async false
set_option linter.all false
set_option maxRecDepth 100000
set_option maxHeartbeats 4000000
namespace DL.Law
open DL
open PySem PySem.Spec PyProof.Rows L2
variable [TabsC]
local macro_rules | `(tactic| walk_at "dl") => `(tactic| simp only [DL.sSeq, DL.sSet, DL.sSetM, DL.sNext, DL.sFalse, DL.sBreak, DL.sCont, DL.sExpr, DL.sRet, DL.sRetN, DL.sIf, DL.sAsg, DL.sPar, DL.sParM, DL.sPar3, DL.sApp, DL.sExt, DL.sFor, DL.sFrz, DL.frzD, DL.mC, DL.mVar, DL.mMut, DL.mBin, DL.mCmp, DL.mCmpT, DL.mChain, DL.mChainT, DL.mTest, DL.mVal, DL.mNotT, DL.mAndT, DL.mOrT, DL.mAnd, DL.mOr, DL.mIf, DL.mNil, DL.mCons, DL.mTup, DL.mLst, DL.mB, DL.mCall, DL.mCall0, DL.mThunk, DL.mThk, DL.e_dm0, DL.e_dmv, DL.e_dmu, DL.e_dmm, DL.e_dms, DL.e_dmc, DL.mRepr, DL.sAug, DL.e_fI2, DL.fAugAdd, DL.fAugSub, DL.sRaise, DL.sRaise0, DL.sTry, DL.hsM, DL.hPlain, DL.hAs, DL.mEF, DL.mSFld, DL.sFld, DL.putFD, DL.mMeth0, DL.mProp, DL.mMake, DL.mMakeS, DL.mMakeL, DL.mMakeSL, DL.mCM, DL.mSplit, DL.mSl, DL.mMethS, DL.mMethS0, DL.mPropS, DL.mMakeI, DL.mMakeIS, DL.mFunI, DL.mFunIS, DL.kI, DL.mIsiX, DL.mEqS, DL.mInS, DL.mLenS, DL.mStrS, DL.mEnumL, DL.mSliceS, DL.mIsiC, DL.mIsiT, DL.mKeys, DL.mVals, DL.mItems, DL.mDGet2, DL.mFunD, DL.mFunS, DL.mFunM, DL.mFunMS, DL.endK, DL.endM, DV.s.injEq, DL.fIs, DL.fIsNot, DL.e_nn, DL.e_nt, DL.e_nl, DL.e_ni, DL.e_fIx_1, DL.e_fIx_2, DL.e_fIx_3, DL.e_fIx_4, DL.e_fAdd_1, DL.e_fAdd_2, DL.e_fAdd_3, DL.e_fAdd_4, DL.e_fSub_1, DL.e_fEq_i, DL.e_fNe_i, DL.e_fEq_b, DL.e_fNe_b, DL.e_fI_1, DL.fMul, DL.fDiv, DL.fMod, DL.fPow, DL.e_fCmp_1, DL.e_fCmp_2, DL.fLt, DL.fLe, DL.fGt, DL.fGe, DL.e_fIsB_1, DL.e_fIsNotB_1, DL.e_fLen_1, DL.e_fLen_2, DL.e_fLen_3, DL.e_fLen_4, DL.eAbs, DL.eMax2, DL.eMin2, DL.e_fInt_1, DL.e_fInt_2, DL.fStr, DL.e_fTuple_1, DL.e_fTuple_2, DL.e_fList_1, DL.e_fList_2, DL.mDice, DL.mNeg, DL.mSlice, DL.mNoPart, DL.mPart, DL.e_fSlice_1, DL.e_fSlice_2, DL.mSeq, DL.mRange1, DL.mRange2, DL.mRange3, DL.mSigns, DL.mJoin, DL.mRev, DL.mRevL, DL.mStar, DL.mDGet, DL.mFld, DL.mMeth, DL.sPut, DL.sPutL, DL.sPutT, DL.mCallFn, DL.mCallK, DL.mRepT, DL.mRepU, DL.mCompK, DL.mListVals, DL.mListItems, DL.mCompD, DL.mCompD2, DL.mRep, DL.sParMM, DL.sParVM, DL.mLend, DL.sIfW, DL.e_fAddL, DL.sAppPop, DL.mSumVals, DL.mEqO, DL.mInO, DL.mLenO, DL.mGetO, DL.mFmt, DL.mJs, DL.mJoined, DL.mStrO, DL.mBinO, DL.e_inD, DL.e_lenD, DL.e_listD, DL.e_tupD, DL.e_eqD, DL.e_neD, DL.e_keyI, DL.e_keyS, DL.mFunMD, DL.mMaxLenD, DL.mTupRg1, DL.mTupRg2, DL.mChain3, DL.fSortSet, DL.mZip, DL.mZipM, DL.mEnumT, DL.iOf_int, DL.mZip3, DL.mBestD, DL.gN, DL.gT, DL.gL, DL.gsNil, DL.gsCons, DL.mYes, DL.mComp, DL.wipeD, DL.mDisp, DL.mDStar, DL.mPairs, DL.mpNil, DL.mpCons, DL.startD, DL.mFun, List.getElem?_cons_zero, List.getElem?_cons_succ, List.set_cons_zero, List.set_cons_succ, Option.some.injEq, DV.v.injEq, DV.m.injEq, exists_eq_left', exists_eq_left, List.cons.injEq, and_true, true_and, List.map_cons, List.map_nil, List.length_cons, List.length_nil, List.cons_append, List.nil_append, List.replicate_succ, List.replicate_zero, Nat.reduceSub, Nat.reduceAdd, Nat.zero_add, Nat.zero_le, sizeLine_eq, Nat.reduceLeDiff, Int.reduceLE, Int.reduceLT, DL.p61, Int.reduceNeg, Int.zero_add, D.int.injEq, D.bool.injEq, D.str.injEq, D.list.injEq, D.tup.injEq, D.dict.injEq, DL.mListZip, DL.mListO, DL.mListS, DL.mDPopN, DL.e_srcT, DL.e_srcK, DL.mLCount, DL.fSumT, DL.e_lk, D.obj.injEq, List.drop_zero, List.take_zero, List.take_succ_cons, List.take_nil, List.drop_succ_cons, List.drop_nil, D.script.injEq, Int.reduceToNat, exists_eq_right, exists_eq_right', List.append_nil, DL.ex2, DL.ex3, DL.atI_0, DL.atI_1, DL.cut_01, reduceCtorEq, false_and, and_false, exists_false, false_or, or_false, Bool.not_true, Bool.not_false, Bool.false_eq_true, if_true, if_false, ite_true, ite_false, decide_true, decide_false, reduceIte])
abbrev sls : List Str := ["Packing"]
/-- is_integer -/
def b_is_integer : SM :=
  (sRet (mAnd (mIsiT owns "int" (mVar 0)) (mAnd (mVal (mNotT (mTest (mIsiT owns "bool" (mVar 0))))) (mChain fLt fLt (mNeg (mC (.int 100000000000000000000000000000000000000000000000000000000000000000000000000000000000000000000000000000000000000000000000000000000000000000000000000000000000000000000000000000000000000000000000000000000))) (mVar 0) (mC (.int 100000000000000000000000000000000000000000000000000000000000000000000000000000000000000000000000000000000000000000000000000000000000000000000000000000000000000000000000000000000000000000000000000000000))))))
def m_is_integer : FM := mFun 1 1 b_is_integer
def c_is_integer : FM := fun ds Q _ => ∃ d, ds = [d] ∧ okB owns d ∧ Q (.bool (intD d))
theorem c_is_integer_ok : ∀ ds Q E, c_is_integer ds Q E → m_is_integer ds Q E := by
  rintro ds Q E ⟨d, rfl, ht, q⟩
  unfold m_is_integer b_is_integer
  walk_at "dl"
  rw [isx_int ht]
  refine ⟨_, rfl, ?_⟩
  cases d with
  | int i =>
    rw [show (D.int i).isI = true from rfl, if_pos rfl, isx_bool ht]
    refine ⟨_, rfl, ?_⟩
    rw [show (D.int i).isB = false from rfl]
    walk_at "dl"
    rw [lim_lit]
    simp only [intD] at q
    by_cases h1 : -(10 ^ 200) < i
    · rw [decide_eq_true h1, Bool.true_and] at q
      rw [decide_eq_true h1, if_pos rfl]
      exact q
    · rw [decide_eq_false h1, Bool.false_and] at q
      rw [decide_eq_false h1, if_neg (by decide)]
      exact q
  | bool b =>
    rw [show (D.bool b).isI = true from rfl, if_pos rfl, isx_bool ht]
    refine ⟨_, rfl, ?_⟩
    rw [show (D.bool b).isB = true from rfl, if_neg (by decide)]
    exact q
  | _ => exact q
/-- is_size -/
def b_is_size : SM :=
  (sRet (mAnd (mCall c_is_integer (mCons (mVar 0) mNil)) (mCmp fGe (mVar 0) (mC (.int 1)))))
def m_is_size : FM := mFun 1 1 b_is_size
def c_is_size : FM := fun ds Q _ => ∃ d, ds = [d] ∧ okB owns d ∧ Q (.bool (sizD d))
theorem c_is_size_ok : ∀ ds Q E, c_is_size ds Q E → m_is_size ds Q E := by
  rintro ds Q E ⟨d, rfl, ht, q⟩
  unfold m_is_size b_is_size
  walk_at "dl"
  refine ⟨d, rfl, ht, _, rfl, ?_⟩
  cases d with
  | int i =>
    rw [siz_eq] at q
    cases h : intD (.int i) with
    | true =>
      rw [h, Bool.true_and] at q
      rw [if_pos rfl]
      exact q
    | false =>
      rw [h, Bool.false_and] at q
      rw [if_neg (by decide)]
      exact q
  | _ => exact q
theorem isZ {d : D} {Q : D → Prop} {E : Er → Prop} (h : d.tyn.isSome = true) (q : Q (.bool (sizD d))) : c_is_size [d] Q E := ⟨d, rfl, .inl h, q⟩
/-- is_filling -/
def b_is_filling : SM :=
  (sSeq (sIf (mOrT (mNotT (mTest (mIsiT owns "tuple" (mVar 0)))) (mCmpT fGt (mB fLen (mCons (mVar 0) mNil)) (mC (.int 12))))
  (sRet (mC (.bool false)))
  sNext)
  (sSeq (sFor (mSeq (mVar 0)) (gN 1)
  (sIf (mOrT (mNotT (mTest (mIsiT owns "tuple" (mVar 1)))) (mOrT (mCmpT fNe (mB fLen (mCons (mVar 1) mNil)) (mC (.int 2))) (mOrT (mNotT (mTest (mCall c_is_size (mCons (mBin fIx (mVar 1) (mC (.int 0))) mNil)))) (mNotT (mTest (mCall c_is_size (mCons (mBin fIx (mVar 1) (mC (.int 1))) mNil)))))))
    (sRet (mC (.bool false)))
    sNext))
  (sRet (mB fAll (mCons (mComp [2, 3] (mZip (mCons (mVar 0) (mCons (mSlice (mVar 0) (mPart (mC (.int 1))) mNoPart) mNil))) (gT 2 (gsCons (gN 2) (gsCons (gN 3) gsNil))) mYes (mCmp fLt (mBin fIx (mVar 2) (mC (.int 0))) (mBin fIx (mVar 3) (mC (.int 0))))) mNil)))))
def m_is_filling : FM := mFun 1 4 b_is_filling
def c_is_filling : FM := fun ds Q _ => ∃ f : Tab, ds = [fillD f] ∧ fillOk f ∧ Q (.bool true)
theorem c_is_filling_ok : ∀ ds Q E, c_is_filling ds Q E → m_is_filling ds Q E := by
  rintro ds Q E ⟨f, rfl, ⟨hl, hb, ha⟩, q⟩
  unfold m_is_filling b_is_filling fillD
  walk_at "dl"
  rw [isx_tup (.inl rfl)]
  refine ⟨_, rfl, ?_⟩
  rw [show (D.tup (f.map pairD)).isT = true from rfl, if_neg (by decide)]
  rw [List.length_map, if_neg (by rw [decide_eq_true_eq]; omega)]
  refine forL_ind (fun ds δ => ∃ (l : Tab) (x : DV), ds = l.map pairD ∧ (∀ p, p ∈ l → p ∈ f) ∧ δ = [.v (.tup (f.map pairD)), x, .u, .u]) (fun δ ⟨l, x, e, hm, hδ⟩ => ?_) (fun d ds δ N ⟨l, x, e, hm, hδ⟩ hN => ?_) ⟨f, .u, rfl, fun _ h => h, rfl⟩
  · subst hδ
    walk_at "dl"
    rw [cut_tail, nb_keys]
    refine compL_map (fun d => match d with | .tup [.tup [.int x, _], .tup [.int y, _]] => .bool (decide (x < y)) | _ => .none) (fun d hd R S hR => ?_) ?_
    · obtain ⟨p, hp, rfl⟩ := List.mem_map.mp hd
      refine ⟨_, rfl, rfl, _, _, rfl, _, _, rfl, rfl, ?_⟩
      unfold pairD at hR ⊢
      walk_at "dl"
      exact hR
    · refine ⟨(nbP f).map fun p => decide (p.1.1 < p.2.1), ?_, ?_⟩
      · rw [List.nil_append, List.map_map, List.map_map] <;> rfl
      · rw [List.all_map]
        have eb : (nbP f).all (id ∘ fun p => decide (p.1.1 < p.2.1)) = ascL (keysT f) := nb_asc f
        rw [eb, ha]
        exact q
  · subst hδ
    cases l with
    | nil => cases e
    | cons p r =>
      rw [List.map_cons, List.cons.injEq] at e
      obtain ⟨rfl, rfl⟩ := e
      have hp := hb p (hm p List.mem_cons_self)
      unfold pairD
      walk_at "dl"
      rw [isx_tup (.inl rfl)]
      refine ⟨_, rfl, ?_⟩
      rw [show (D.tup [.int p.1, .int p.2]).isT = true from rfl, if_neg (by decide), if_neg (by decide)]
      refine isZ rfl ⟨_, rfl, ?_⟩
      rw [siz_ok hp.1, if_neg (by decide)]
      refine isZ rfl ⟨_, rfl, ?_⟩
      rw [siz_ok hp.2, if_neg (by decide)]
      exact hN _ ⟨r, _, rfl, fun z hz => hm z (List.mem_cons_of_mem _ hz), rfl⟩
/-- load_in -/
def b_load_in : SM :=
  (sRet (mB fSum (mCons (mComp [1, 2] (mSeq (mVar 0)) (gT 2 (gsCons (gN 1) (gsCons (gN 2) gsNil))) mYes (mBin fMul (mVar 1) (mVar 2))) mNil)))
def m_load_in : FM := mFun 1 3 b_load_in
def c_load_in : FM := fun ds Q _ => ∃ f : Tab, ds = [fillD f] ∧ fillOk f ∧ Q (.int (loadT f))
theorem c_load_in_ok : ∀ ds Q E, c_load_in ds Q E → m_load_in ds Q E := by
  rintro ds Q E ⟨f, rfl, hf, q⟩
  unfold m_load_in b_load_in fillD
  walk_at "dl"
  refine compL_map (fun d => match d with | .tup [.int x, .int y] => .int (x * y) | _ => .none) (fun d hd R S hR => ?_) ?_
  · obtain ⟨p, hp, rfl⟩ := List.mem_map.mp hd
    refine ⟨_, rfl, rfl, _, _, rfl, _, _, rfl, rfl, ?_⟩
    walk_at "dl"
    have hp := hf.2.1 p hp
    exact ⟨lim200 (by omega) hp.1.2 (by omega) hp.2.2, hR⟩
  · rw [List.nil_append, List.map_map]
    refine ⟨f.map fun p : Int × Int => p.1 * p.2, ?_, q⟩
    rw [List.map_map] <;> rfl
/-- is_run -/
def b_is_run : SM :=
  (sSeq (sIf (mOrT (mNotT (mTest (mIsiT owns "tuple" (mVar 0)))) (mOrT (mCmpT fNe (mB fLen (mCons (mVar 0) mNil)) (mC (.int 3))) (mOrT (mNotT (mTest (mCall c_is_size (mCons (mBin fIx (mVar 0) (mC (.int 0))) mNil)))) (mNotT (mTest (mCall c_is_size (mCons (mBin fIx (mVar 0) (mC (.int 1))) mNil)))))))
  (sRet (mC (.bool false)))
  sNext)
  (sRet (mAnd (mCall c_is_filling (mCons (mBin fIx (mVar 0) (mC (.int 2))) mNil)) (mCmp fLe (mCall c_load_in (mCons (mBin fIx (mVar 0) (mC (.int 2))) mNil)) (mBin fIx (mVar 0) (mC (.int 0)))))))
def m_is_run : FM := mFun 1 1 b_is_run
def c_is_run : FM := fun ds Q _ => ∃ x : PRun, ds = [prD x] ∧ prOk x ∧ Q (.bool true)
theorem c_is_run_ok : ∀ ds Q E, c_is_run ds Q E → m_is_run ds Q E := by
  rintro ds Q E ⟨⟨r, n, f⟩, rfl, ⟨hr, hf, hl⟩, q⟩
  unfold m_is_run b_is_run prD
  walk_at "dl"
  rw [isx_tup (.inl rfl)]
  refine ⟨_, rfl, ?_⟩
  rw [show ∀ xs, (D.tup xs).isT = true from fun _ => rfl, if_neg (by decide), if_neg (by decide)]
  refine isZ rfl ⟨_, rfl, ?_⟩
  rw [siz_ok hr.1, if_neg (by decide)]
  refine isZ rfl ⟨_, rfl, ?_⟩
  rw [siz_ok hr.2, if_neg (by decide)]
  refine ⟨_, rfl, f, rfl, hf, ?_⟩
  walk_at "dl"
  refine ⟨_, rfl, f, rfl, hf, ?_⟩
  walk_at "dl"
  rw [decide_eq_true hl]
  exact q
/-- joined_runs -/
def b_joined_runs : SM :=
  (sSeq (sSetM 1 (mLst mNil))
  (sSeq (sFor (mSeq (mVar 0)) (gT 3 (gsCons (gN 2) (gsCons (gN 3) (gsCons (gN 4) gsNil))))
  (sIf (mAndT (mCmpT fNe (mMut 1) (mLst mNil)) (mAndT (mCmpT fEq (mBin fIx (mBin fIx (mMut 1) (mNeg (mC (.int 1)))) (mC (.int 0))) (mVar 2)) (mCmpT fEq (mBin fIx (mBin fIx (mMut 1) (mNeg (mC (.int 1)))) (mC (.int 2))) (mVar 4))))
    (sPutL 1 (mNeg (mC (.int 1))) (mTup (mCons (mVar 2) (mCons (mBin fAdd (mBin fIx (mBin fIx (mMut 1) (mNeg (mC (.int 1)))) (mC (.int 1))) (mVar 3)) (mCons (mVar 4) mNil)))))
    (sApp 1 (mTup (mCons (mVar 2) (mCons (mVar 3) (mCons (mVar 4) mNil)))))))
  (sFrz 1 (sRet (mVar 1)))))
def m_joined_runs : FM := mFun 1 5 b_joined_runs
def c_joined_runs : FM := fun ds Q _ => ∃ L : List PRun, ds = [.tup (L.map prD)] ∧ L.length ≤ 2000 ∧ Q (.list ((joinR L).map prD))
theorem c_joined_runs_ok : ∀ ds Q E, c_joined_runs ds Q E → m_joined_runs ds Q E := by
  rintro ds Q E ⟨L, rfl, hl, q⟩
  unfold m_joined_runs b_joined_runs
  walk_at "dl"
  refine forL_inv (fun i δ => ∃ x y z, δ = [DV.v (.tup (L.map prD)), .m (.list ((joinR (L.take i)).map prD)), x, y, z]) (fun i d δ N hd ⟨x, y, z, hδ⟩ hN => ?_) ⟨.u, .u, .u, rfl⟩ fun δ ⟨x, y, z, hδ⟩ => ?_
  · subst hδ
    rw [List.getElem?_map, Option.map_eq_some_iff] at hd
    obtain ⟨⟨r, n, f⟩, hp, rfl⟩ := hd
    have hi := (List.getElem?_eq_some_iff.mp hp).1
    have ht : L.take (i + 1) = L.take i ++ [(r, n, f)] := by rw [List.take_succ_eq_append_getElem hi, (List.getElem?_eq_some_iff.mp hp).2]
    have hm := joinR_len (L.take i)
    rw [List.length_take] at hm
    have ep : ∀ (r n : Int) (f : Tab), prD (r, n, f) = .tup [.int r, .int n, fillD f] := fun _ _ _ => rfl
    rw [ep]
    walk_at "dl"
    refine ⟨(finePR _).fine (by decide), (fineN_list (n := 0) (ds := []) fun d hd => by cases hd).fine (by decide), ?_⟩
    rw [eqD_list]
    have hN' := hN
    rw [ht, join_snoc] at hN'
    rcases end_or (joinR (L.take i)) with e | ⟨l, ⟨r0, n0, f0⟩, e⟩
    · rw [e] at hN' ⊢
      simp only [List.map_nil, eqAll, Bool.not_true, Bool.false_eq_true, if_false]
      exact ⟨by simp, hN' _ ⟨_, _, _, rfl⟩⟩
    · rw [e, jstep_end] at hN'
      rw [e] at hm ⊢
      rw [List.map_append, List.map_cons, List.map_nil]
      rw [show eqAll (l.map prD ++ [prD (r0, n0, f0)]) [] = false by cases l <;> rfl]
      simp only [Bool.not_false, if_true]
      rw [List.length_append, List.length_singleton] at hm
      refine ⟨_, atI_end, ?_⟩
      rw [ep r0]
      walk_at "dl"
      have long : (l.map prD ++ [D.tup [.int r0, .int n0, fillD f0]]).length < 16777216 := by
        rw [List.length_append, List.length_map, List.length_singleton]
        omega
      by_cases h : r0 = r
      · rw [if_pos (by rw [decide_eq_true h])]
        refine ⟨_, atI_end, ?_⟩
        walk_at "dl"
        refine ⟨_, rfl, fEq_fill ?_⟩
        by_cases h2 : f0 = f
        · rw [if_pos ⟨h, h2⟩] at hN'
          rw [if_pos (by rw [decide_eq_true h2])]
          refine ⟨_, atI_end, ?_⟩
          walk_at "dl"
          refine ⟨_, _, rfl, ix_last _ _, hN' _ ⟨.v (.int r), .v (.int n), .v (fillD f), ?_⟩⟩
          rw [List.map_append, List.set_append_right _ _ (Nat.le_refl _), Nat.sub_self] <;> rfl
        · rw [if_neg (fun z => h2 z.2)] at hN'
          rw [if_neg (by rw [decide_eq_true_eq]; exact h2)]
          exact ⟨long, hN' _ ⟨.v (.int r), .v (.int n), .v (fillD f), by rw [List.map_append, List.map_append] <;> rfl⟩⟩
      · rw [if_neg (fun z => h z.1)] at hN'
        rw [if_neg (by rw [decide_eq_true_eq]; exact h)]
        exact ⟨long, hN' _ ⟨.v (.int r), .v (.int n), .v (fillD f), by rw [List.map_append, List.map_append] <;> rfl⟩⟩
  · subst hδ
    rw [List.length_map, List.take_length]
    walk_at "dl"
    exact q
/-- rooms_in -/
def b_rooms_in : SM :=
  (sSeq (sSetM 1 (mLst mNil))
  (sSeq (sFor (mSeq (mVar 0)) (gT 3 (gsCons (gN 2) (gsCons (gN 3) (gsCons (gN 4) gsNil))))
  (sIf (mAndT (mCmpT fNe (mMut 1) (mLst mNil)) (mCmpT fEq (mBin fIx (mBin fIx (mMut 1) (mNeg (mC (.int 1)))) (mC (.int 0))) (mVar 2)))
    (sPutL 1 (mNeg (mC (.int 1))) (mTup (mCons (mVar 2) (mCons (mBin fAdd (mBin fIx (mBin fIx (mMut 1) (mNeg (mC (.int 1)))) (mC (.int 1))) (mVar 3)) mNil))))
    (sApp 1 (mTup (mCons (mVar 2) (mCons (mVar 3) mNil))))))
  (sFrz 1 (sRet (mVar 1)))))
def m_rooms_in : FM := mFun 1 5 b_rooms_in
def c_rooms_in : FM := fun ds Q _ => ∃ L : List PRun, (ds = [.tup (L.map prD)] ∨ ds = [.list (L.map prD)]) ∧ L.length ≤ 2000 ∧ Q (.list ((mergeT (roomsOf L)).map pairD))
theorem c_rooms_in_ok : ∀ ds Q E, c_rooms_in ds Q E → m_rooms_in ds Q E := by
  rintro ds Q E ⟨L, hds, hl, q⟩
  have run : ∀ (z : D), forL (gT 3 (gsCons (gN 2) (gsCons (gN 3) (gsCons (gN 4) gsNil)))) (sIf (mAndT (mCmpT fNe (mMut 1) (mLst mNil)) (mCmpT fEq (mBin fIx (mBin fIx (mMut 1) (mNeg (mC (.int 1)))) (mC (.int 0))) (mVar 2)))
      (sPutL 1 (mNeg (mC (.int 1))) (mTup (mCons (mVar 2) (mCons (mBin fAdd (mBin fIx (mBin fIx (mMut 1) (mNeg (mC (.int 1)))) (mC (.int 1))) (mVar 3)) mNil))))
      (sApp 1 (mTup (mCons (mVar 2) (mCons (mVar 3) mNil))))) (L.map prD) [.v z, .m (.list []), .u, .u, .u] { endK Q E with nx := fun δ => sFrz 1 (sRet (mVar 1)) δ (endK Q E) } := fun z0 => by
    refine forL_inv (fun i δ => ∃ x y z, δ = [DV.v z0, .m (.list ((mergeT (roomsOf (L.take i))).map pairD)), x, y, z]) (fun i d δ N hd ⟨x, y, z, hδ⟩ hN => ?_) ⟨.u, .u, .u, rfl⟩ fun δ ⟨x, y, z, hδ⟩ => ?_
    · subst hδ
      rw [List.getElem?_map, Option.map_eq_some_iff] at hd
      obtain ⟨⟨r, n, f⟩, hp, rfl⟩ := hd
      have hi := (List.getElem?_eq_some_iff.mp hp).1
      have ht : L.take (i + 1) = L.take i ++ [(r, n, f)] := by rw [List.take_succ_eq_append_getElem hi, (List.getElem?_eq_some_iff.mp hp).2]
      have hm := mergeT_len (roomsOf (L.take i))
      rw [show (roomsOf (L.take i)).length = (L.take i).length from List.length_map .., List.length_take] at hm
      rw [show prD (r, n, f) = .tup [.int r, .int n, fillD f] from rfl]
      walk_at "dl"
      refine ⟨(fineR _).fine (by decide), (fineN_list (n := 0) (ds := []) fun d hd => by cases hd).fine (by decide), ?_⟩
      rw [eqD_list]
      have hN' := hN
      rw [ht, rooms_snoc, mergeT_snoc] at hN'
      rcases end_or (mergeT (roomsOf (L.take i))) with e | ⟨l, ⟨r0, n0⟩, e⟩
      · rw [e] at hN' ⊢
        simp only [List.map_nil, eqAll, Bool.not_true, Bool.false_eq_true, if_false]
        exact ⟨by simp, hN' _ ⟨_, _, _, rfl⟩⟩
      · rw [e, mstep_end] at hN'
        rw [e] at hm ⊢
        rw [List.map_append, List.map_cons, List.map_nil]
        rw [show eqAll (l.map pairD ++ [pairD (r0, n0)]) [] = false by cases l <;> rfl]
        simp only [Bool.not_false, if_true]
        rw [List.length_append, List.length_singleton] at hm
        refine ⟨_, atI_end, ?_⟩
        rw [show pairD (r0, n0) = .tup [.int r0, .int n0] from rfl]
        walk_at "dl"
        by_cases h : r0 = r
        · rw [if_pos h] at hN'
          rw [if_pos (by rw [decide_eq_true h])]
          refine ⟨_, atI_end, ?_⟩
          walk_at "dl"
          refine ⟨_, _, rfl, ix_last _ _, hN' _ ⟨.v (.int r), .v (.int n), .v (fillD f), ?_⟩⟩
          rw [List.map_append, List.set_append_right _ _ (Nat.le_refl _), Nat.sub_self] <;> rfl
        · rw [if_neg h] at hN'
          rw [if_neg (by rw [decide_eq_true_eq]; exact h)]
          refine ⟨?_, hN' _ ⟨.v (.int r), .v (.int n), .v (fillD f), by rw [List.map_append, List.map_append] <;> rfl⟩⟩
          rw [List.length_append, List.length_map, List.length_singleton]
          omega
    · subst hδ
      rw [List.length_map, List.take_length]
      walk_at "dl"
      exact q
  unfold m_rooms_in b_rooms_in
  rcases hds with rfl | rfl
  · have := run (.tup (L.map prD))
    walk_at "dl"
    exact this
  · have := run (.list (L.map prD))
    walk_at "dl"
    exact this
/-- sizes_in -/
def b_sizes_in : SM :=
  (sRet (mCompD2 [1, 2, 3, 4, 5] [4, 5] (mSeq (mVar 0)) (gT 3 (gsCons (gN 1) (gsCons (gN 2) (gsCons (gN 3) gsNil)))) mYes (mSeq (mVar 3)) (gT 2 (gsCons (gN 4) (gsCons (gN 5) gsNil))) mYes (mVar 4) (mC (.bool true))))
def m_sizes_in : FM := mFun 1 6 b_sizes_in
def c_sizes_in : FM := fun ds Q _ => ∃ L : List PRun, ds = [.list (L.map prD)] ∧ L.length ≤ 2000 ∧ (∀ x, x ∈ L → fillOk x.2.2) ∧ Q (.dict (trueT (SK L)))
theorem c_sizes_in_ok : ∀ ds Q E, c_sizes_in ds Q E → m_sizes_in ds Q E := by
  rintro ds Q E ⟨L, rfl, hl, hf, q⟩
  unfold m_sizes_in b_sizes_in
  have inner : ∀ (δ : List DV) (f : Tab) (acc : List Int) (K : List (Key × D) → Prop), δ.length = 6 → acc.length + f.length < 16777216 → K (trueT ((keysT f).foldl addK acc)) → compD2i (gT 2 (gsCons (gN 4) (gsCons (gN 5) gsNil))) mYes (mVar 4) (mC (.bool true)) δ (f.map pairD) (trueT acc) K := fun δ f => by
    induction f with
    | nil => exact fun acc K _ _ k => k
    | cons p r ih =>
      intro acc K hδ hl k
      match δ, hδ with
      | [a, b, c, d, e, g], hδ =>
        rw [List.map_cons, show pairD p = .tup [.int p.1, .int p.2] from rfl]
        unfold compD2i
        walk_at "dl"
        rw [List.length_cons] at hl
        refine ⟨?_, ?_⟩
        · unfold trueT; rw [List.length_map]; omega
        · rw [put_true]
          refine ih _ _ hδ ?_ k
          unfold addK
          split
          · omega
          · rw [List.length_append, List.length_singleton]; omega
  have outer : ∀ (δ : List DV) (M : List PRun) (acc : List Int) (Q : D → Prop), δ.length = 6 → acc.length + (flatP M).length < 16777216 → Q (.dict (trueT ((keysT (flatP M)).foldl addK acc))) → compD2 [4, 5] (gT 3 (gsCons (gN 1) (gsCons (gN 2) (gsCons (gN 3) gsNil)))) mYes (mSeq (mVar 3)) (gT 2 (gsCons (gN 4) (gsCons (gN 5) gsNil))) mYes (mVar 4) (mC (.bool true)) δ (M.map prD) (trueT acc) Q := fun δ M => by
    induction M with
    | nil => exact fun acc K _ _ k => k
    | cons x r ih =>
      intro acc K hδ hl k
      match δ, hδ with
      | [a, b, c, d, e, g], hδ =>
        obtain ⟨rm, n, f⟩ := x
        rw [List.map_cons, show prD (rm, n, f) = .tup [.int rm, .int n, .tup (f.map pairD)] from rfl]
        unfold compD2
        walk_at "dl"
        rw [flat_cons, List.length_append, List.length_map] at hl
        have hl : acc.length + (f.length + (flatP r).length) < 16777216 := hl
        refine inner _ f acc _ rfl (by omega) ?_
        have ek : keysT (flatP ((rm, n, f) :: r)) = keysT f ++ keysT (flatP r) := by
          rw [flat_cons]
          show List.map _ _ = _
          rw [List.map_append]
          congr 1
          exact keys_fill f n
        rw [ek, List.foldl_append] at k
        refine ih _ _ hδ ?_ k
        have := (foldK' (keysT f) acc)
        rw [show (keysT f).length = f.length from List.length_map ..] at this
        omega
  walk_at "dl"
  have hz := flatP_len hf
  exact outer _ _ [] _ rfl (by show 0 + _ < _; omega) q
/-- Packing.__init__ -/
def b_Packing_init : SM :=
  (sSeq (sIf (mOrT (mCmpT fGt (mB fLen (mCons (mVar 1) mNil)) (mC (.int 2000))) (mNotT (mTest (mB fAll (mCons (mComp [2] (mSeq (mVar 1)) (gN 2) mYes (mCall c_is_run (mCons (mVar 2) mNil))) mNil)))))
  (sRaise0 "InvalidPacking")
  sNext)
  (sSeq (sSet 3 (mCall c_joined_runs (mCons (mVar 1) mNil)))
  (sIf (mOrT (mCmpT fGt (mB fLenY (mCons (mCall c_sizes_in (mCons (mVar 3) mNil)) mNil)) (mC (.int 12))) (mCmpT fGt (mB fLen (mCons (mCall c_rooms_in (mCons (mVar 3) mNil)) mNil)) (mC (.int 40))))
  (sRaise0 "InvalidPacking")
  sNext)))
def v_Packing_init : TM :=
  (mB fTuple (mCons (mVar 3) mNil))
def m_Packing_init : FM := mFunIS 4 b_Packing_init v_Packing_init
def c_Packing_init : FM := fun ds Q _ => ∃ L : List PRun, ds = L.map prD ∧ L.length ≤ 2000 ∧ (∀ x, x ∈ L → prOk x) ∧ (SK (joinR L)).length ≤ 12 ∧ (mergeT (roomsOf L)).length ≤ 40 ∧ Q (.tup ((joinR L).map prD))
theorem c_Packing_init_ok : ∀ ds Q E, c_Packing_init ds Q E → m_Packing_init ds Q E := by
  rintro ds Q E ⟨L, rfl, hl, hx, h12, h40, q⟩
  unfold m_Packing_init b_Packing_init v_Packing_init
  walk_at "dl"
  refine ⟨by rw [List.length_map]; omega, fun x Hc => ?_⟩
  rw [List.length_map, if_neg (by rw [decide_eq_true_eq]; omega)]
  refine compL_map (fun _ => .bool true) (fun d hd R S hR => ?_) ?_
  · obtain ⟨y, hy, rfl⟩ := List.mem_map.mp hd
    walk_at "dl"
    exact ⟨y, rfl, hx y hy, hR⟩
  · refine ⟨L.map fun _ => true, by rw [List.nil_append, List.map_map, List.map_map] <;> rfl, _, rfl, ?_⟩
    rw [if_neg (by simp)]
    refine ⟨L, rfl, hl, joinR L, rfl, Nat.le_trans (joinR_len L) hl, join_fill (P := fillOk) fun x hx' => (hx x hx').2.1, ?_⟩
    walk_at "dl"
    rw [show (trueT (SK (joinR L))).length = (SK (joinR L)).length from List.length_map .., if_neg (by rw [decide_eq_true_eq]; omega)]
    refine ⟨joinR L, .inr rfl, Nat.le_trans (joinR_len L) hl, ?_⟩
    rw [rooms_join]
    walk_at "dl"
    rw [List.length_map, if_neg (by rw [decide_eq_true_eq]; omega)]
    exact ⟨(finePT _).1, q⟩
/-- Packing.things -/
def b_Packing_things : SM :=
  (sSeq (sSetM 1 (mC (.dict [])))
  (sSeq (sFor (mSeq (mSl "Packing" (mVar 0))) (gT 3 (gsCons (gN 2) (gsCons (gN 3) (gsCons (gN 4) gsNil))))
  (sFor (mSeq (mVar 4)) (gT 2 (gsCons (gN 5) (gsCons (gN 6) gsNil)))
    (sPut 1 (mVar 5) (mBin fAdd (mDGet2 (mMut 1) (mVar 5) (mC (.int 0))) (mBin fMul (mVar 3) (mVar 6))))))
  (sFrz 1 (sRet (mVar 1)))))
def m_Packing_things : FM := mFun 1 7 b_Packing_things
def c_Packing_things : FM := fun ds Q _ => ∃ L : List PRun, ds = [packD L] ∧ L.length ≤ 2000 ∧ (∀ x, x ∈ L → prOk x) ∧ Q (.dict (tabD (accT (flatP L))))
theorem c_Packing_things_ok : ∀ ds Q E, c_Packing_things ds Q E → m_Packing_things ds Q E := by
  rintro ds Q E ⟨L, rfl, hl, hx, q⟩
  unfold m_Packing_things b_Packing_things packD
  walk_at "dl"
  refine ⟨_, rfl, .inr ⟨_, rfl, ?_⟩⟩
  refine forL_inv (fun i δ => ∃ a b c x y, δ = [DV.v (D.sob "Packing" (.tup (L.map prD))), .m (.dict (tabD (accT (flatP (L.take i))))), a, b, c, x, y]) (fun i d δ N hd ⟨a, b, c, x, y, hδ⟩ hN => ?_) ⟨.u, .u, .u, .u, .u, rfl⟩ fun δ ⟨a, b, c, x, y, hδ⟩ => ?_
  · subst hδ
    rw [List.getElem?_map, Option.map_eq_some_iff] at hd
    obtain ⟨⟨r, n, f⟩, hp, rfl⟩ := hd
    have hi := (List.getElem?_eq_some_iff.mp hp).1
    have ht : L.take (i + 1) = L.take i ++ [(r, n, f)] := by rw [List.take_succ_eq_append_getElem hi, (List.getElem?_eq_some_iff.mp hp).2]
    have ho := hx (r, n, f) (List.mem_of_getElem? hp)
    rw [show prD (r, n, f) = .tup [.int r, .int n, .tup (f.map pairD)] from rfl]
    walk_at "dl"
    rw [ht] at hN
    generalize hT : flatP (L.take i) = T at hN
    rw [flat_snoc, hT] at hN
    refine forL_inv (fun j δ => ∃ x y, δ = [DV.v (D.sob "Packing" (.tup (L.map prD))), .m (.dict (tabD (accT (T ++ (f.take j).map fun q => (q.1, n * q.2))))), .v (.int r), .v (.int n), .v (.tup (f.map pairD)), x, y]) (fun j d δ N hd ⟨x, y, hδ⟩ hN => ?_) ⟨x, y, by simp⟩ fun δ ⟨x, y, hδ⟩ => ?_
    · subst hδ
      rw [List.getElem?_map, Option.map_eq_some_iff] at hd
      obtain ⟨⟨s, k⟩, hp, rfl⟩ := hd
      have hj := (List.getElem?_eq_some_iff.mp hp).1
      have htf : f.take (j + 1) = f.take j ++ [(s, k)] := by rw [List.take_succ_eq_append_getElem hj, (List.getElem?_eq_some_iff.mp hp).2]
      have hk := ho.2.1.2.1 (s, k) (List.mem_of_getElem? hp)
      rw [htf, List.map_append, ← List.append_assoc, List.map_cons, List.map_nil, acc_snoc] at hN
      rw [show pairD (s, k) = .tup [.int s, .int k] from rfl]
      walk_at "dl"
      have hn1 : 1 ≤ n ∧ n < 10 ^ 200 := ho.1.2
      have hk1 : 1 ≤ k ∧ k < 10 ^ 200 := hk.2
      refine ⟨lim200 (by omega) hn1.2 (by omega) hk1.2, ?_⟩
      have hlen := acc_len (T ++ (f.take j).map fun q => (q.1, n * q.2))
      have hTl : T.length ≤ 12 * 2000 := by
        rw [← hT]
        refine Nat.le_trans (flatP_len fun x hx' => (hx x (List.mem_of_mem_take hx')).2.1) (Nat.mul_le_mul_left _ ?_)
        rw [List.length_take]; omega
      have hfl := ho.2.1.1
      rw [List.length_append, List.length_map, List.length_take] at hlen
      have hfl : f.length ≤ 12 := hfl
      have hn := (acc_facts (T ++ (f.take j).map fun q => (q.1, n * q.2))).1
      generalize accT (T ++ (f.take j).map fun q => (q.1, n * q.2)) = M at hN hlen hn ⊢
      have ec : (valD (tabD M) (Sum.inl s)).getD (D.int 0) = .int (cntT M s) := by
        rw [valD_tab]
        unfold cntT
        cases valT M s <;> rfl
      rw [ec]
      walk_at "dl"
      rw [tab_len, inc_put hn]
      exact ⟨by omega, hN _ ⟨_, _, rfl⟩⟩
    · subst hδ
      rw [List.length_map, List.take_length]
      exact hN _ ⟨_, _, _, _, _, rfl⟩
  · subst hδ
    rw [List.length_map, List.take_length]
    walk_at "dl"
    exact q
/-- is_count -/
def b_is_count : SM :=
  (sRet (mAnd (mCall c_is_integer (mCons (mVar 0) mNil)) (mCmp fGe (mVar 0) (mC (.int 0)))))
def m_is_count : FM := mFun 1 1 b_is_count
def c_is_count : FM := fun ds Q _ => ∃ d, ds = [d] ∧ okB owns d ∧ Q (.bool (cntD d))
theorem c_is_count_ok : ∀ ds Q E, c_is_count ds Q E → m_is_count ds Q E := by
  rintro ds Q E ⟨d, rfl, ht, q⟩
  unfold m_is_count b_is_count
  walk_at "dl"
  refine ⟨d, rfl, ht, _, rfl, ?_⟩
  cases d with
  | int i =>
    rw [cnt_eq] at q
    cases h : intD (.int i) with
    | true =>
      rw [h, Bool.true_and] at q
      rw [if_pos rfl]
      exact q
    | false =>
      rw [h, Bool.false_and] at q
      rw [if_neg (by decide)]
      exact q
  | _ => exact q
theorem isCO {d : D} {Q : D → Prop} {E : Er → Prop} (h : okB owns d) (q : Q (.bool (cntD d))) : c_is_count [d] Q E := ⟨d, rfl, h, q⟩
/-- is_index -/
def b_is_index : SM :=
  (sRet (mAnd (mCall c_is_count (mCons (mVar 0) mNil)) (mCmp fLt (mVar 0) (mVar 1))))
def m_is_index : FM := mFun 2 2 b_is_index
def c_is_index : FM := fun ds Q _ => ∃ (d : D) (m : Int), ds = [d, .int m] ∧ okB owns d ∧ Q (.bool (cntD d && decide (iOf d < m)))
theorem c_is_index_ok : ∀ ds Q E, c_is_index ds Q E → m_is_index ds Q E := by
  rintro ds Q E ⟨d, m, rfl, hd, q⟩
  unfold m_is_index b_is_index
  walk_at "dl"
  refine isCO hd ⟨_, rfl, ?_⟩
  cases h : cntD d with
  | false =>
    rw [h, Bool.false_and] at q
    rw [if_neg (by decide)]
    exact q
  | true =>
    rw [h, Bool.true_and] at q
    rw [if_pos rfl]
    obtain ⟨i, rfl, _⟩ := cnt_int h
    walk_at "dl"
    exact q
/-- Packing.spot_of -/
def b_Packing_spot_of : SM :=
  (sSeq (sSet 3 (mMethS0 "Packing" c_Packing_things (mVar 0)))
  (sSeq (sIf (mOrT (mNotT (mTest (mCall c_is_size (mCons (mVar 1) mNil)))) (mCmpT (fInY true) (mVar 1) (mVar 3)))
  (sRaise "NoRoom" "size" (mVar 1))
  sNext)
  (sSeq (sIf (mNotT (mTest (mCall c_is_index (mCons (mVar 2) (mCons (mDGet (mVar 3) (mVar 1)) mNil)))))
  (sRaise "InvalidNumber" "value" (mVar 2))
  sNext)
  (sSeq (sPar 4 5 (mCons (mVar 2) (mCons (mC (.int 0)) mNil)))
  (sFor (mSeq (mSl "Packing" (mVar 0))) (gT 3 (gsCons (gN 6) (gsCons (gN 7) (gsCons (gN 8) gsNil))))
  (sSeq (sSet 9 (mDGet2 (mB fDictP (mCons (mB fList (mCons (mVar 8) mNil)) mNil)) (mVar 1) (mC (.int 0))))
    (sSeq (sIf (mCmpT fLt (mVar 4) (mBin fMul (mVar 7) (mVar 9)))
    (sRet (mBin fAdd (mVar 5) (mBin fDiv (mVar 4) (mVar 9))))
    sNext)
    (sPar 4 5 (mCons (mBin fSub (mVar 4) (mBin fMul (mVar 7) (mVar 9))) (mCons (mBin fAdd (mVar 5) (mVar 7)) mNil))))))))))
def m_Packing_spot_of : FM := mFun 3 10 b_Packing_spot_of
def c_Packing_spot_of : FM := fun ds Q _ => ∃ (L : List PRun) (s i t : Int), ds = [packD L, .int s, .int i] ∧ L.length ≤ 2000 ∧ (∀ x, x ∈ L → prOk x) ∧ (1 ≤ s ∧ s < 10 ^ 200) ∧ 0 ≤ i ∧ i < 10 ^ 200 ∧ i < totK (flatP L) s ∧ spotR s L i 0 = some t ∧ Q (.int t)
theorem c_Packing_spot_of_ok : ∀ ds Q E, c_Packing_spot_of ds Q E → m_Packing_spot_of ds Q E := by
  rintro ds Q E ⟨L, s, i, t, rfl, hl, hx, hs, i0, i1, hi, ht, q⟩
  unfold m_Packing_spot_of b_Packing_spot_of
  walk_at "dl"
  refine ⟨_, rfl, L, rfl, hl, hx, ?_⟩
  refine isZ rfl ⟨_, rfl, ?_⟩
  rw [siz_ok hs, if_neg (by decide)]
  obtain ⟨hn, hc, hk⟩ := acc_facts (flatP L)
  have ins : s ∈ keysT (accT (flatP L)) := by
    by_cases z : s ∈ keysT (accT (flatP L))
    · exact z
    · have := cnt_out z
      rw [hc] at this
      omega
  have hv : valD (tabD (accT (flatP L))) (.inl s) = some (.int (totK (flatP L) s)) := by
    obtain ⟨p, hp, rfl⟩ := List.mem_map.mp ins
    rw [valD_tab, valT_mem hn hp, ← hc]
    unfold cntT
    rw [valT_mem hn hp] <;> rfl
  walk_at "dl"
  rw [hv, if_neg (fun z => by cases z)]
  refine ⟨_, rfl, _, _, rfl, .inl rfl, ?_⟩
  rw [show cntD (.int i) = true by simp only [cntD, Bool.and_eq_true, decide_eq_true_eq]; exact ⟨i0, i1⟩, show iOf (.int i) = i from rfl, decide_eq_true hi]
  refine ⟨_, rfl, ?_⟩
  rw [if_neg (by decide)]
  refine ⟨_, rfl, .inr ⟨_, rfl, ?_⟩⟩
  refine forL_ind (fun ds δ => ∃ (M : List PRun) (rest a : Int) (x y z w : DV), ds = M.map prD ∧ (∀ x, x ∈ M → x ∈ L) ∧ 0 ≤ rest ∧ spotR s M rest a = some t ∧ δ = [.v (packD L), .v (.int s), .v (.int i), .v (.dict (tabD (accT (flatP L)))), .v (.int rest), .v (.int a), x, y, z, w]) (fun δ ⟨M, rest, a, x, y, z, w, e, _, _, h, _⟩ => ?_) (fun d ds δ N ⟨M, rest, a, x, y, z, w, e, hm, h0, h, hδ⟩ hN => ?_) ⟨L, i, 0, .u, .u, .u, .u, rfl, fun _ h => h, i0, ht, rfl⟩
  · cases M with
    | nil => cases h
    | cons _ _ => cases e
  · subst hδ
    cases M with
    | nil => cases e
    | cons p M =>
      obtain ⟨r, n, f⟩ := p
      rw [List.map_cons, List.cons.injEq] at e
      obtain ⟨rfl, rfl⟩ := e
      have ho := hx (r, n, f) (hm _ List.mem_cons_self)
      rw [show prD (r, n, f) = .tup [.int r, .int n, .tup (f.map pairD)] from rfl]
      walk_at "dl"
      refine dictP_tab (fill_nd ho.2.1) ⟨_, rfl, ?_⟩
      walk_at "dl"
      rw [tab_get]
      walk_at "dl"
      obtain ⟨c0, c1⟩ := fill_cnt ho.2.1 s
      have hn1 : 1 ≤ n ∧ n < 10 ^ 200 := ho.1.2
      have hm1 : IntMulOk n (cntT f s) := lim200 (by omega) hn1.2 c0 c1
      unfold spotR at h
      refine ⟨hm1, ?_⟩
      by_cases c : rest < n * cntT f s
      · rw [if_pos c, Option.some.injEq] at h
        rw [if_pos (decide_eq_true c), h]
        refine ⟨div_ok ?_ c1, q⟩
        rcases Int.lt_or_eq_of_le c0 with z | z
        · exact z
        · rw [← z] at c; simp at c; omega
      · rw [if_neg c] at h
        rw [if_neg (by rw [decide_eq_true_eq]; exact c)]
        exact ⟨hm1, hN _ ⟨M, _, _, _, _, _, _, rfl, fun x hx' => hm x (List.mem_cons_of_mem _ hx'), by omega, h, rfl⟩⟩
/-- _law_dice -/
def b_law_dice : SM :=
  (sSeq (sSet 2 (mIf (mCmpT fLt (mVar 1) (mB fLen (mCons (mVar 0) mNil))) (mB fInt (mCons (mBin fIx (mVar 0) (mVar 1)) mNil)) (mBin fAdd (mBin fMul (mC (.int 71)) (mVar 1)) (mC (.int 29)))))
  (sSeq (sSet 3 (mBin fMod (mB fMax2 (mCons (mC (.int 0)) (mCons (mBin fSub (mB fAbs (mCons (mVar 2) mNil)) (mBin fPow (mC (.int 10)) (mC (.int 15)))) mNil))) (mBin fMul (mBin fPow (mC (.int 10)) (mC (.int 60))) (mBin fPow (mC (.int 10)) (mC (.int 60))))))
  (sRet (mDice (mLst (mCons (mVar 3) (mCons (mBin fAdd (mBin fAdd (mBin fAdd (mBin fMul (mBin fMod (mB fAbs (mCons (mVar 2) mNil)) (mC (.int 1152921504606846877))) (mC (.int 43))) (mBin fMul (mC (.int 1009)) (mVar 1))) (mBin fMul (mC (.int 31)) (mB fInt (mCons (mCmp fLt (mVar 2) (mC (.int 0))) mNil)))) (mC (.int 11))) (mCons (mC (.int 0)) mNil))))))))
def m_law_dice : FM := mFun 2 4 b_law_dice
def c_law_dice : FM := fun ds Q _ => ∃ (ns : List Int) (n : Nat), ds = [.script ns, .int n] ∧ Q .dice
theorem c_law_dice_ok : ∀ ds Q E, c_law_dice ds Q E → m_law_dice ds Q E := by
  rintro ds Q E ⟨ns, n, rfl, q⟩
  unfold m_law_dice b_law_dice
  walk_at "dl"
  split
  · rename_i h
    obtain ⟨x, ex, _⟩ := atI_of (xs := ns) (i := (n : Int)) (by omega) (by simpa using h)
    exact ⟨x, ex, pow_ok1, pow_ok2, pow_ok2, mul_big, by decide, mul_r (by decide) (by decide), mul_l (by decide) (by decide), mul_l (by decide) (by decide), ⟨_, _, _, rfl, rfl, rfl⟩, q⟩
  · exact ⟨mul_l (by decide) (by decide), pow_ok1, pow_ok2, pow_ok2, mul_big, by decide, mul_r (by decide) (by decide), mul_l (by decide) (by decide), mul_l (by decide) (by decide), ⟨_, _, _, rfl, rfl, rfl⟩, q⟩
/-- _law_filling_of -/
def b_law_filling_of : SM :=
  (sRet (mB fTuple (mCons (mComp [1] (mSeq (mB fSortK (mCons (mVar 0) mNil))) (gN 1) (mCmpT fGt (mDGet (mVar 0) (mVar 1)) (mC (.int 0))) (mTup (mCons (mVar 1) (mCons (mDGet (mVar 0) (mVar 1)) mNil)))) mNil)))
def m_law_filling_of : FM := mFun 1 2 b_law_filling_of
def c_law_filling_of : FM := fun ds Q _ => ∃ T : Tab, ds = [.dict (tabD T)] ∧ (keysT T).Nodup ∧ T.length < 64 ∧ Q (fillD (posT T))
theorem c_law_filling_of_ok : ∀ ds Q E, c_law_filling_of ds Q E → m_law_filling_of ds Q E := by
  rintro ds Q E ⟨T, rfl, hn, hl, q⟩
  unfold m_law_filling_of b_law_filling_of
  walk_at "dl"
  refine ⟨tabD T, keysT T, rfl, tab_keysK T, by rw [keys_len]; exact hl, fun ms hp hs => .inl ⟨_, rfl, ?_⟩⟩
  have e := setL_perm hp hn hs
  subst e
  have hk : ∀ k, k ∈ setL (keysT T) → ∃ v, valT T k = some v := fun k hk => by
    obtain ⟨p, hp, rfl⟩ := List.mem_map.mp (setL_mem.mp hk)
    exact ⟨p.2, valT_mem hn hp⟩
  have es : ((setL (keysT T)).filter fun k => decide (cntT T k > 0)).map (fun k => (k, cntT T k)) = posT T := by
    unfold posT sortT
    rw [List.filter_map] <;> rfl
  refine compL_det (fun d => decide (cntT T (iOf d) > 0)) (fun d => pairD (iOf d, cntT T (iOf d))) (fun d hd R S hR => ?_) ?_
  · obtain ⟨k, hk', rfl⟩ := List.mem_map.mp hd
    obtain ⟨v, hv⟩ := hk k hk'
    have ec : cntT T k = v := by unfold cntT; rw [hv] <;> rfl
    simp only [iOf_int, ec] at hR
    walk_at "dl"
    refine ⟨.int v, by rw [valD_tab, hv] <;> rfl, ?_⟩
    walk_at "dl"
    by_cases hc : v > 0
    · rw [if_pos (decide_eq_true hc)] at hR
      rw [if_pos (by rw [decide_eq_true_eq]; omega)]
      exact ⟨.int v, by rw [valD_tab, hv] <;> rfl, hR⟩
    · rw [if_neg (by rw [decide_eq_true_eq]; exact hc)] at hR
      rw [if_neg (by rw [decide_eq_true_eq]; omega)]
      exact hR
  · have e2 : ([] : List D) ++ (List.filter (fun d => decide (cntT T (iOf d) > 0)) ((setL (keysT T)).map D.int)).map (fun d => pairD (iOf d, cntT T (iOf d))) = (posT T).map pairD := by
      rw [← es, List.nil_append, List.filter_map, List.map_map, List.map_map] <;> rfl
    rw [e2]
    exact q
/-- _law_drawn_filling -/
def b_law_drawn_filling : SM :=
  (sSeq (sSet 3 (mB fDictP (mCons (mComp [4] (mSeq (mVar 1)) (gN 4) mYes (mTup (mCons (mVar 4) (mCons (mB fMax2 (mCons (mC (.int 0)) (mCons (mBin fSub (mCall mRoll (mCons (mVar 0) (mCons (mBin fAdd (mVar 2) (mC (.int 3))) mNil))) (mC (.int 2))) mNil))) mNil)))) mNil)))
  (sRet (mCall c_law_filling_of (mCons (mVar 3) mNil))))
def m_law_drawn_filling : FM := mFun 3 5 b_law_drawn_filling
def c_law_drawn_filling : FM := fun ds Q _ => ∃ ss : List Int, ds = [.dice, .list (ss.map .int), .int 3] ∧ ss.Nodup ∧ ss.length ≤ 12 ∧ (∀ s, s ∈ ss → 1 ≤ s ∧ s ≤ 10 ^ 40) ∧ ∀ f : Tab, fillOk f → (∀ p, p ∈ f → p.1 ∈ ss ∧ p.2 ≤ 3) → Q (fillD f)
theorem c_law_drawn_filling_ok : ∀ ds Q E, c_law_drawn_filling ds Q E → m_law_drawn_filling ds Q E := by
  rintro ds Q E ⟨ss, rfl, hn, hl, hb, q⟩
  unfold m_law_drawn_filling b_law_drawn_filling
  walk_at "dl"
  refine compL_each (fun d y => ∃ c : Int, 0 ≤ c ∧ c ≤ 3 ∧ y = .tup [d, .int c]) (fun d hd R S hR => ?_) fun ys hy hys => ?_
  · obtain ⟨s, hs, rfl⟩ := List.mem_map.mp hd
    walk_at "dl"
    refine ⟨_, rfl, by decide, by decide, fun w w0 w1 => ?_⟩
    walk_at "dl"
    refine hR _ ⟨_, ?_, ?_, rfl⟩
    · split <;> omega
    · split <;> omega
  · rw [List.nil_append]
    obtain ⟨T, rfl, hk, hT⟩ := draw_tab hy hys
    have hnT : (keysT T).Nodup := by rw [hk]; exact hn
    have hp := fill_pos hk hn hl hb (by decide +kernel) hT (by decide +kernel)
    exact dictP_tab hnT ⟨T, rfl, hnT, by rw [← keys_len, hk]; omega, q _ hp.1 hp.2⟩
/-- _law_load -/
def b_law_load : SM :=
  (sRet (mB fSum (mCons (mComp [1, 2] (mSeq (mVar 0)) (gT 2 (gsCons (gN 1) (gsCons (gN 2) gsNil))) mYes (mBin fMul (mVar 1) (mVar 2))) mNil)))
def m_law_load : FM := mFun 1 3 b_law_load
def c_law_load : FM := fun ds Q _ => ∃ f : Tab, ds = [fillD f] ∧ fillOk f ∧ Q (.int (loadT f))
theorem c_law_load_ok : ∀ ds Q E, c_law_load ds Q E → m_law_load ds Q E := by
  rintro ds Q E ⟨f, rfl, hf, q⟩
  unfold m_law_load b_law_load fillD
  walk_at "dl"
  refine compL_map (fun d => match d with | .tup [.int x, .int y] => .int (x * y) | _ => .none) (fun d hd R S hR => ?_) ?_
  · obtain ⟨p, hp, rfl⟩ := List.mem_map.mp hd
    refine ⟨_, rfl, rfl, _, _, rfl, _, _, rfl, rfl, ?_⟩
    walk_at "dl"
    have hp := hf.2.1 p hp
    exact ⟨lim200 (by omega) hp.1.2 (by omega) hp.2.2, hR⟩
  · rw [List.nil_append, List.map_map]
    refine ⟨f.map fun p : Int × Int => p.1 * p.2, ?_, q⟩
    rw [List.map_map] <;> rfl
/-- _law_pick -/
def b_law_pick : SM :=
  (sRet (mBin fIx (mVar 1) (mCall mRoll (mCons (mVar 0) (mCons (mB fLen (mCons (mVar 1) mNil)) mNil)))))
def m_law_pick : FM := mFun 2 2 b_law_pick
def c_law_pick : FM := fun ds Q _ => ∃ xs : List D, (ds = [.dice, .list xs] ∨ ds = [.dice, .tup xs]) ∧ 0 < xs.length ∧ xs.length < 1073741824 ∧ ∀ x, x ∈ xs → Q x
theorem c_law_pick_ok : ∀ ds Q E, c_law_pick ds Q E → m_law_pick ds Q E := by
  rintro ds Q E ⟨xs, hd, h0, h1, q⟩
  unfold m_law_pick b_law_pick
  rcases hd with rfl | rfl
  all_goals
    walk_at "dl"
    refine ⟨_, rfl, by omega, by omega, fun r r0 r1 => ?_⟩
    obtain ⟨x, ex, hx⟩ := atI_of r0 r1
    exact ⟨x, ex, q x hx⟩
/-- _law_drawn_runs -/
def b_law_drawn_runs : SM :=
  (sSeq (sSetM 4 (mLst mNil))
  (sSeq (sFor (mRange1 (mCons (mCall mRoll (mCons (mVar 0) (mCons (mBin fAdd (mVar 2) (mC (.int 1))) mNil))) mNil)) (gN 5)
  (sSeq (sSet 6 (mCall c_law_drawn_filling (mCons (mVar 0) (mCons (mVar 1) (mCons (mC (.int 3)) mNil)))))
    (sSeq (sSet 7 (mBin fAdd (mCall c_law_load (mCons (mVar 6) mNil)) (mCall c_law_pick (mCons (mVar 0) (mCons (mLst (mCons (mC (.int 0)) (mCons (mC (.int 0)) (mCons (mC (.int 1)) (mCons (mC (.int 2)) (mCons (mC (.int 7)) mNil)))))) mNil)))))
    (sSeq (sSet 8 (mTup (mCons (mB fMax2 (mCons (mC (.int 1)) (mCons (mVar 7) mNil))) (mCons (mBin fAdd (mC (.int 1)) (mCall mRoll (mCons (mVar 0) (mCons (mVar 3) mNil)))) (mCons (mVar 6) mNil)))))
    (sSeq (sApp 4 (mVar 8))
    (sIf (mCmpT fEq (mCall mRoll (mCons (mVar 0) (mCons (mC (.int 3)) mNil))) (mC (.int 0)))
    (sApp 4 (mTup (mCons (mBin fIx (mVar 8) (mC (.int 0))) (mCons (mBin fAdd (mC (.int 1)) (mCall mRoll (mCons (mVar 0) (mCons (mVar 3) mNil)))) (mCons (mVar 6) mNil)))))
    sNext))))))
  (sFrz 4 (sRet (mVar 4)))))
def m_law_drawn_runs : FM := mFun 4 9 b_law_drawn_runs
/-- drawn runs over some sizes -/
def okRuns (m : Nat) (g : Int) (ss : List Int) (L : List PRun) : Prop := L.length ≤ 2 * m ∧ ∀ x, x ∈ L → prOk x ∧ x.1 ≤ 10 ^ 50 ∧ x.2.1 ≤ g ∧ ∀ p, p ∈ x.2.2 → p.1 ∈ ss ∧ p.2 ≤ 3
def c_law_drawn_runs : FM := fun ds Q _ => ∃ (ss : List Int) (m : Nat) (g : Int), ds = [.dice, .list (ss.map .int), .int m, .int g] ∧ m ≤ 20 ∧ 1 ≤ g ∧ g ≤ 10 ^ 6 ∧ ss.Nodup ∧ ss.length ≤ 12 ∧ (∀ s, s ∈ ss → 1 ≤ s ∧ s ≤ 10 ^ 40) ∧ ∀ L : List PRun, okRuns m g ss L → Q (.list (L.map prD))
theorem c_law_drawn_runs_ok : ∀ ds Q E, c_law_drawn_runs ds Q E → m_law_drawn_runs ds Q E := by
  rintro ds Q E ⟨ss, m, g, rfl, hm, g0, g1, hn, hl, hb, q⟩
  unfold m_law_drawn_runs b_law_drawn_runs
  walk_at "dl"
  refine ⟨_, rfl, by omega, by omega, fun u u0 u1 => ?_⟩
  walk_at "dl"
  refine ⟨by omega, by omega, ?_⟩
  refine forL_inv (fun i δ => ∃ (L : List PRun) (a b c d : DV), δ = [DV.v .dice, .v (.list (ss.map .int)), .v (.int m), .v (.int g), .m (.list (L.map prD)), a, b, c, d] ∧ L.length ≤ 2 * i ∧ ∀ x, x ∈ L → prOk x ∧ x.1 ≤ 10 ^ 50 ∧ x.2.1 ≤ g ∧ ∀ p, p ∈ x.2.2 → p.1 ∈ ss ∧ p.2 ≤ 3) (fun i d δ N hd ⟨L, a, b, c, d', hδ, hL, hx⟩ hN => ?_) ⟨[], .u, .u, .u, .u, rfl, by simp, fun x hx => by cases hx⟩ fun δ ⟨L, a, b, c, d', hδ, hL, hx⟩ => ?_
  · subst hδ
    have hi := (List.getElem?_eq_some_iff.mp hd).1
    rw [rangeD_length] at hi
    obtain ⟨k, _, rfl⟩ := rangeD_mem (List.mem_of_getElem? hd)
    walk_at "dl"
    refine ⟨ss, rfl, hn, hl, hb, fun f hf hp => ?_⟩
    walk_at "dl"
    refine ⟨f, rfl, hf, ?_⟩
    dsimp only
    refine ⟨_, .inl rfl, by decide, by decide, fun x hx' => ?_⟩
    obtain ⟨c, c0, c7, rfl⟩ : ∃ c : Int, 0 ≤ c ∧ c ≤ 7 ∧ x = .int c := by
      simp only [List.mem_cons, List.not_mem_nil, or_false] at hx'
      rcases hx' with rfl | rfl | rfl | rfl | rfl <;> exact ⟨_, by decide, by decide, rfl⟩
    obtain ⟨l0, l1⟩ := load_small hf hp hb
    dsimp only [fAdd]
    refine ⟨_, _, rfl, ?_⟩
    obtain ⟨r, hr, r0, r1, r2⟩ : ∃ r : Int, (if loadT f + c > 1 then loadT f + c else 1) = r ∧ 1 ≤ r ∧ loadT f ≤ r ∧ r ≤ 10 ^ 50 := by
      refine ⟨_, rfl, ?_⟩
      split <;> refine ⟨?_, ?_, ?_⟩ <;> omega
    rw [hr]
    refine ⟨g, rfl, by omega, by omega, fun w w0 w1 => ?_⟩
    dsimp only [fAdd]
    rw [List.length_map]
    refine ⟨by omega, _, rfl, by decide, by decide, fun v v0 v1 => ?_⟩
    have okx : ∀ w : Int, 0 ≤ w → w < g → prOk (r, 1 + w, f) ∧ r ≤ 10 ^ 50 ∧ 1 + w ≤ g ∧ ∀ p, p ∈ f → p.1 ∈ ss ∧ p.2 ≤ 3 := fun w w0 w1 =>
      ⟨⟨⟨⟨r0, by show r < _; omega⟩, by show 1 ≤ 1 + w; omega, by show 1 + w < _; omega⟩, hf, r1⟩, r2, by omega, hp⟩
    walk_at "dl"
    split
    · refine ⟨g, rfl, by omega, by omega, fun w2 w3 w4 => ?_⟩
      dsimp only [fAdd]
      rw [show L.map prD ++ [D.tup [.int r, .int (1 + w), fillD f]] = (L ++ [(r, 1 + w, f)]).map prD by rw [List.map_append] <;> rfl]
      rw [show (L ++ [(r, 1 + w, f)]).map prD ++ [D.tup [.int r, .int (1 + w2), fillD f]] = (L ++ [(r, 1 + w, f)] ++ [(r, 1 + w2, f)]).map prD by rw [List.map_append (l₁ := L ++ [(r, 1 + w, f)])] <;> rfl]
      refine ⟨by rw [List.length_map, List.length_append, List.length_singleton]; omega, hN _ ⟨L ++ [(r, 1 + w, f)] ++ [(r, 1 + w2, f)], _, _, _, _, rfl, ?_, ?_⟩⟩
      · simp only [List.length_append, List.length_singleton]; omega
      · intro x hx'
        rcases List.mem_append.mp hx' with z | z
        · rcases List.mem_append.mp z with z | z
          · exact hx x z
          · rw [List.mem_singleton] at z; subst z; exact okx w w0 w1
        · rw [List.mem_singleton] at z; subst z; exact okx w2 w3 w4
    · rw [show L.map prD ++ [D.tup [.int r, .int (1 + w), fillD f]] = (L ++ [(r, 1 + w, f)]).map prD by rw [List.map_append] <;> rfl]
      refine hN _ ⟨L ++ [(r, 1 + w, f)], _, _, _, _, rfl, ?_, ?_⟩
      · simp only [List.length_append, List.length_singleton]; omega
      · intro x hx'
        rcases List.mem_append.mp hx' with z | z
        · exact hx x z
        · rw [List.mem_singleton] at z; subst z; exact okx w w0 w1
  · subst hδ
    rw [rangeD_length] at hL
    walk_at "dl"
    exact q L ⟨by omega, hx⟩
/-- Packing.joined -/
def b_Packing_joined : SM :=
  (sSeq (sIf (mNotT (mTest (mIsiX owns sls "Packing" (mVar 1))))
  (sRaise0 "InvalidPacking")
  sNext)
  (sRet (mMakeI "Packing" c_Packing_init (mStar (mSl "Packing" (mVar 0)) (mStar (mSl "Packing" (mVar 1)) mNil)))))
def m_Packing_joined : FM := mFun 2 2 b_Packing_joined
def c_Packing_joined : FM := fun ds Q _ => ∃ A B : List PRun, ds = [packD A, packD B] ∧ (A ++ B).length ≤ 2000 ∧ (∀ x, x ∈ A ++ B → prOk x) ∧ (SK (joinR (A ++ B))).length ≤ 12 ∧ (mergeT (roomsOf (A ++ B))).length ≤ 40 ∧ Q (packD (joinR (A ++ B)))
theorem c_Packing_joined_ok : ∀ ds Q E, c_Packing_joined ds Q E → m_Packing_joined ds Q E := by
  rintro ds Q E ⟨A, B, rfl, hl, hx, h12, h40, q⟩
  unfold m_Packing_joined b_Packing_joined packD
  walk_at "dl"
  refine ⟨.inr ⟨_, _, rfl, by decide⟩, _, rfl, ?_⟩
  rw [show isCX "Packing" (D.sob "Packing" (D.tup (List.map prD B))) = true from rfl, if_neg (by decide)]
  refine ⟨_, rfl, _, .inl rfl, _, rfl, _, .inl rfl, A ++ B, (List.map_append ..).symm, hl, hx, h12, h40, q⟩
/-- _law_made_packing -/
def b_law_made_packing : SM :=
  (sSeq (sSet 1 (mMakeI "Packing" c_Packing_init mNil))
  (sSeq (sFor (mSeq (mVar 0)) (gN 2)
  (sSet 1 (mMethS "Packing" c_Packing_joined (mVar 1) (mCons (mMakeI "Packing" c_Packing_init (mCons (mVar 2) mNil)) mNil))))
  (sRet (mVar 1))))
def m_law_made_packing : FM := mFun 1 3 b_law_made_packing
def c_law_made_packing : FM := fun ds Q _ => ∃ (L : List PRun) (U : List Int), ds = [.list (L.map prD)] ∧ L.length ≤ 40 ∧ (∀ x, x ∈ L → prOk x ∧ x.2.1 ≤ 10 ^ 150) ∧ (∀ x, x ∈ L → ∀ p, p ∈ x.2.2 → p.1 ∈ U) ∧ U.length ≤ 12 ∧ Q (packD (joinR L))
theorem c_law_made_packing_ok : ∀ ds Q E, c_law_made_packing ds Q E → m_law_made_packing ds Q E := by
  rintro ds Q E ⟨L, U, rfl, hl, hx, hU, hu, q⟩
  unfold m_law_made_packing b_law_made_packing
  walk_at "dl"
  have jok : ∀ M : List PRun, M.length ≤ 40 → (∀ x, x ∈ M → prOk x ∧ x.2.1 ≤ 10 ^ 150) → ∀ x, x ∈ joinR M → prOk x := fun M hM h => join_prok hM h
  refine ⟨[], rfl, by simp, fun x hx => (by cases hx), by decide, by decide, ?_⟩
  refine forL_inv (fun i δ => ∃ a, δ = [DV.v (.list (L.map prD)), .v (packD (joinR (L.take i))), a]) (fun i d δ N hd ⟨a, hδ⟩ hN => ?_) ⟨.u, rfl⟩ fun δ ⟨a, hδ⟩ => ?_
  · subst hδ
    rw [List.getElem?_map, Option.map_eq_some_iff] at hd
    obtain ⟨x, hp, rfl⟩ := hd
    have hi := (List.getElem?_eq_some_iff.mp hp).1
    have hxm := List.mem_of_getElem? hp
    have ht : L.take (i + 1) = L.take i ++ [x] := by rw [List.take_succ_eq_append_getElem hi, (List.getElem?_eq_some_iff.mp hp).2]
    have hxt : ∀ z, z ∈ L.take i → prOk z ∧ z.2.1 ≤ 10 ^ 150 := fun z hz => hx z (List.mem_of_mem_take hz)
    have hlt : (joinR (L.take i)).length ≤ i := Nat.le_trans (joinR_len _) (by rw [List.length_take]; omega)
    rw [ht, ← join_two] at hN
    walk_at "dl"
    have few : ∀ M : List PRun, (∀ z, z ∈ M → ∀ p, p ∈ z.2.2 → p.1 ∈ U) → (SK (joinR M)).length ≤ 12 := fun M h => Nat.le_trans (SK_few (flat_in h)) hu
    have hjt := jok (L.take i) (by rw [List.length_take]; omega) hxt
    have fjt := join_fill (P := fun f => ∀ p, p ∈ f → p.1 ∈ U) (L := L.take i) fun z hz => hU z (List.mem_of_mem_take hz)
    have one : ∀ {P : PRun → Prop}, P x → ∀ z, z ∈ [x] → P z := fun h z hz => by rw [List.mem_singleton] at hz; rw [hz]; exact h
    have app : ∀ {P : PRun → Prop}, (∀ z, z ∈ joinR (L.take i) → P z) → P x → ∀ z, z ∈ joinR (L.take i) ++ [x] → P z := fun h1 h2 z hz => (List.mem_append.mp hz).elim (h1 z) (one h2 z)
    refine ⟨_, rfl, [x], rfl, by simp, one (hx x hxm).1, few [x] (one (hU x hxm)), by show (mergeT (roomsOf [x])).length ≤ 40; exact Nat.le_trans (mergeT_len _) (by show 1 ≤ 40; decide), ?_⟩
    refine ⟨joinR (L.take i), [x], rfl, by rw [List.length_append, List.length_singleton]; omega, app hjt (hx x hxm).1, few _ (app fjt (hU x hxm)), ?_, hN _ ⟨_, rfl⟩⟩
    refine Nat.le_trans (mergeT_len _) ?_
    rw [show (roomsOf (joinR (L.take i) ++ [x])).length = (joinR (L.take i) ++ [x]).length from List.length_map .., List.length_append, List.length_singleton]
    omega
  · subst hδ
    rw [List.length_map, List.take_length]
    walk_at "dl"
    exact q
/-- _law_single -/
def b_law_single : SM :=
  (sSeq (sSetM 1 (mLst mNil))
  (sSeq (sFor (mSeq (mVar 0)) (gT 3 (gsCons (gN 2) (gsCons (gN 3) (gsCons (gN 4) gsNil))))
  (sExt 1 (mRep (mLst (mCons (mTup (mCons (mVar 2) (mCons (mVar 4) mNil))) mNil)) (mVar 3))))
  (sFrz 1 (sRet (mVar 1)))))
def m_law_single : FM := mFun 1 5 b_law_single
def c_law_single : FM := fun ds Q _ => ∃ L : List PRun, ds = [.list (L.map prD)] ∧ L.length ≤ 40 ∧ (∀ x, x ∈ L → 1 ≤ x.2.1 ∧ x.2.1 ≤ 1000) ∧ Q (.list ((singR L).map sgD))
theorem c_law_single_ok : ∀ ds Q E, c_law_single ds Q E → m_law_single ds Q E := by
  rintro ds Q E ⟨L, rfl, hl, hx, q⟩
  unfold m_law_single b_law_single
  walk_at "dl"
  refine forL_inv (fun i δ => ∃ a b c, δ = [DV.v (.list (L.map prD)), .m (.list ((singR (L.take i)).map sgD)), a, b, c]) (fun i d δ N hd ⟨a, b, c, hδ⟩ hN => ?_) ⟨.u, .u, .u, rfl⟩ fun δ ⟨a, b, c, hδ⟩ => ?_
  · subst hδ
    rw [List.getElem?_map, Option.map_eq_some_iff] at hd
    obtain ⟨⟨r, n, f⟩, hp, rfl⟩ := hd
    have hi := (List.getElem?_eq_some_iff.mp hp).1
    have ht : L.take (i + 1) = L.take i ++ [(r, n, f)] := by rw [List.take_succ_eq_append_getElem hi, (List.getElem?_eq_some_iff.mp hp).2]
    have ho := hx (r, n, f) (List.mem_of_getElem? hp)
    have ho : 1 ≤ n ∧ n ≤ 1000 := ho
    rw [ht, sing_snoc, List.map_append] at hN
    have hz := sing_len (L := L.take i) (M := 1000) fun x hx' => by have := (hx x (List.mem_of_mem_take hx')).2; omega
    rw [List.length_take] at hz
    rw [show prD (r, n, f) = .tup [.int r, .int n, fillD f] from rfl]
    walk_at "dl"
    rw [show List.map sgD (List.replicate (r, n, f).2.1.toNat ((r, n, f).1, (r, n, f).2.2)) = (List.replicate n.toNat [D.tup [.int r, fillD f]]).flatten by rw [List.flatten_replicate_singleton, List.map_replicate] <;> rfl] at hN
    refine ⟨_, _, rfl, rfl, by omega, by omega, ?_, ?_, hN _ ⟨_, _, _, rfl⟩⟩
    · rw [List.length_singleton]; omega
    · rw [List.flatten_replicate_singleton, List.length_replicate, List.length_map]; omega
  · subst hδ
    rw [List.length_map, List.take_length]
    walk_at "dl"
    exact q
/-- _law_chain -/
def b_law_chain : SM :=
  (sSeq (sSetM 3 (mLst (mCons (mBin fAdd (mC (.int 1)) (mCall mRoll (mCons (mVar 0) (mCons (mVar 2) mNil)))) mNil)))
  (sSeq (sFor (mRange1 (mCons (mCall mRoll (mCons (mVar 0) (mCons (mVar 1) mNil))) mNil)) (gN 4)
  (sApp 3 (mBin fMul (mBin fIx (mMut 3) (mNeg (mC (.int 1)))) (mBin fAdd (mC (.int 2)) (mCall mRoll (mCons (mVar 0) (mCons (mC (.int 3)) mNil)))))))
  (sFrz 3 (sRet (mB fTuple (mCons (mVar 3) mNil))))))
def m_law_chain : FM := mFun 3 5 b_law_chain
def c_law_chain : FM := fun ds Q _ => ∃ m n : Int, ds = [.dice, .int m, .int n] ∧ 0 < m ∧ m ≤ 6 ∧ 0 < n ∧ n ≤ 100 ∧ ∀ ns : List Int, 1 ≤ ns.length → ns.length ≤ m.toNat → (∀ i, i ∈ ns → 1 ≤ i ∧ i ≤ n * 4 ^ (m.toNat - 1)) → ascL ns = true → gapL ns = none → Q (.tup (ns.map .int))
theorem c_law_chain_ok : ∀ ds Q E, c_law_chain ds Q E → m_law_chain ds Q E := by
  rintro ds Q E ⟨mm, nn, rfl, p1, p2, p3, p4, q⟩
  unfold m_law_chain b_law_chain
  walk_at "dl"
  refine ⟨_, rfl, by omega, by omega, fun r r0 r1 => ?_⟩
  walk_at "dl"
  refine ⟨_, rfl, by omega, by omega, fun m m0 m1 => ?_⟩
  walk_at "dl"
  refine ⟨by omega, by omega, ?_⟩
  have hlen : (rangeD 0 m.toNat).length = m.toNat := by unfold rangeD; rw [List.length_map, List.length_range]
  refine forL_inv (fun i δ => ∃ ns x, δ = [DV.v .dice, .v (.int mm), .v (.int nn), .m (.list (ns.map .int)), x] ∧ ns.length = i + 1 ∧ (∀ j, j ∈ ns → 1 ≤ j ∧ j ≤ nn * 4 ^ i) ∧ ascL ns = true ∧ gapL ns = none) (fun i d δ N hd ⟨ns, x, hδ, hn, hb, ha, hg⟩ hN => ?_) ⟨[1 + r], _, rfl, rfl, fun j hj => ?_, rfl, rfl⟩ fun δ ⟨ns, x, hδ, hn, hb, ha, hg⟩ => ?_
  · subst hδ
    have h0 : ns ≠ [] := fun z => by rw [z] at hn; cases hn
    have hi := (rangeD_get hd).1
    have al := atI_last h0
    walk_at "dl"
    refine ⟨_, al, _, rfl, by decide, by decide, fun w w0 w1 => ?_⟩
    walk_at "dl"
    have hl := hb _ (last_mem h0)
    have hB : (1 : Int) ≤ 4 ^ i := by
      have : 0 < (4 : Nat) ^ i := Nat.pow_pos (by decide)
      rw [pow_nat4]
      exact Int.ofNat_le.mpr this
    have e : (4 : Int) ^ (i + 1) = 4 ^ i * 4 := Int.pow_succ _ _
    have e' : nn * (4 ^ i * 4) = nn * 4 ^ i * 4 := (Int.mul_assoc _ _ _).symm
    have hB' : nn ≤ nn * 4 ^ i := by
      have := Int.mul_le_mul_of_nonneg_left hB (show 0 ≤ nn by omega)
      omega
    have u1 : ns.getLastD 0 * (2 + w) ≤ (nn * 4 ^ i) * 4 := Int.mul_le_mul hl.2 (by omega) (by omega) (by omega)
    have u2 : ns.getLastD 0 * 2 ≤ ns.getLastD 0 * (2 + w) := Int.mul_le_mul_of_nonneg_left (by omega) (by omega)
    refine ⟨mul_r (by omega) (by omega), by rw [List.length_map]; omega, ?_⟩
    have t := hN [DV.v .dice, .v (.int mm), .v (.int nn), .m (.list ((ns ++ [ns.getLastD 0 * (2 + w)]).map .int)), .v d] ⟨_, _, rfl, by rw [List.length_append]; simp [hn], fun j hj => ?_, asc_append h0 ha (by omega), gap_append h0 hg (Int.mul_emod_right _ _)⟩
    · rw [List.map_append] at t
      exact t
    rw [e, e']
    rcases List.mem_append.mp hj with hj | hj
    · have := hb j hj
      generalize nn * 4 ^ i = B at *
      omega
    · rw [List.mem_singleton.mp hj]
      generalize nn * 4 ^ i = B at *
      omega
  · rw [List.mem_singleton.mp hj]
    exact ⟨by omega, by show 1 + r ≤ nn * 1; omega⟩
  · subst hδ
    walk_at "dl"
    rw [hlen] at hn hb
    refine q ns (by omega) (by omega) (fun j hj => ⟨(hb j hj).1, ?_⟩) ha hg
    have h1 := (hb j hj).2
    have h2 : (4 : Int) ^ m.toNat ≤ 4 ^ (mm.toNat - 1) := by
      have : (4 : Nat) ^ m.toNat ≤ 4 ^ (mm.toNat - 1) := Nat.pow_le_pow_right (by decide) (by omega)
      rw [pow_nat4, pow_nat4]
      exact Int.ofNat_le.mpr this
    exact Int.le_trans h1 (Int.mul_le_mul_of_nonneg_left h2 (by omega))
/-- _law_sizes_any -/
def b_law_sizes_any : SM :=
  (sSeq (sIf (mCmpT fEq (mCall mRoll (mCons (mVar 0) (mCons (mC (.int 2)) mNil))) (mC (.int 0)))
  (sRet (mB fList (mCons (mCall c_law_chain (mCons (mVar 0) (mCons (mVar 1) (mCons (mC (.int 3)) mNil)))) mNil)))
  sNext)
  (sRet (mB fSortSet (mCons (mComp [2] (mRange1 (mCons (mVar 1) mNil)) (gN 2) mYes (mBin fAdd (mC (.int 1)) (mCall mRoll (mCons (mVar 0) (mCons (mC (.int 9)) mNil))))) mNil))))
def m_law_sizes_any : FM := mFun 2 3 b_law_sizes_any
def c_law_sizes_any : FM := fun ds Q _ => ∃ m : Nat, ds = [.dice, .int m] ∧ 1 ≤ m ∧ m ≤ 6 ∧ ∀ ss : List Int, ss ≠ [] → ss.Nodup → ss.length ≤ m → (∀ s, s ∈ ss → 1 ≤ s ∧ s ≤ 10 ^ 4) → Q (.list (ss.map .int))
theorem c_law_sizes_any_ok : ∀ ds Q E, c_law_sizes_any ds Q E → m_law_sizes_any ds Q E := by
  rintro ds Q E ⟨m, rfl, m0, m6, q⟩
  unfold m_law_sizes_any b_law_sizes_any
  walk_at "dl"
  refine ⟨_, rfl, by decide, by decide, fun u u0 u1 => ?_⟩
  walk_at "dl"
  by_cases c : u = 0
  · rw [if_pos (decide_eq_true c)]
    refine ⟨m, 3, rfl, by omega, by omega, by decide, by decide, fun ns n1 n6 nb na ng => ?_⟩
    walk_at "dl"
    have n6 : ns.length ≤ m := n6
    have big : (3 : Int) * 4 ^ ((m : Int).toNat - 1) ≤ 10 ^ 4 := by
      have : m = 1 ∨ m = 2 ∨ m = 3 ∨ m = 4 ∨ m = 5 ∨ m = 6 := by omega
      rcases this with rfl | rfl | rfl | rfl | rfl | rfl <;> decide
    refine q ns (fun e => by subst e; exact absurd n1 (by decide)) (List.nodup_iff_pairwise_ne.mpr ((pair_asc na).imp fun h => by omega)) n6 fun s hs => ⟨(nb s hs).1, Int.le_trans (nb s hs).2 big⟩
  rw [if_neg (by simpa using c)]
  refine ⟨by omega, by omega, ?_⟩
  rw [show (m : Int).toNat = m by omega]
  refine compL_each (p := fun _ y => ∃ i : Int, y = .int i ∧ 1 ≤ i ∧ i ≤ 12) (fun d hd R S hR => ?_) fun ys hl hy => ?_
  · obtain ⟨k, hk, rfl⟩ := rangeD_mem hd
    walk_at "dl"
    refine ⟨_, rfl, by decide, by decide, fun w w0 w1 => ?_⟩
    walk_at "dl"
    exact hR _ ⟨_, rfl, by omega, by omega⟩
  rw [List.nil_append]
  have hl' : ys.length = m := by rw [hl, rangeD_length]
  have all : ∀ y, y ∈ ys → ∃ i : Int, y = .int i ∧ 1 ≤ i ∧ i ≤ 12 := fun y hm => by
    obtain ⟨j, hj, e⟩ := List.getElem_of_mem hm
    obtain ⟨d, hd⟩ : ∃ d, (rangeD 0 m)[j]? = some d := ⟨_, List.getElem?_eq_getElem (by omega)⟩
    exact hy j d y hd (by rw [List.getElem?_eq_getElem hj, e])
  have ez : ys = (ys.map iOf).map .int := by
    rw [List.map_map]
    refine (List.map_id ys).symm.trans (List.map_congr_left fun y hm => ?_)
    obtain ⟨i, rfl, _⟩ := all y hm
    rfl
  refine ⟨ys.map iOf, .inl (by rw [← ez]), by rw [List.length_map]; omega, fun ms m1 m2 m3 => ?_⟩
  rw [List.length_map] at m3
  refine q ms (fun e => ?_) (List.nodup_iff_pairwise_ne.mpr (m1.imp fun h => by omega)) (by omega) fun i hi => by
    obtain ⟨y, hm, rfl⟩ := List.mem_map.mp ((m2 i).mp hi)
    obtain ⟨k, rfl, k1, k2⟩ := all y hm
    rw [iOf_int]
    exact ⟨k1, Int.le_trans k2 (by decide +kernel)⟩
  subst e
  match ys, hl', all, m2 with
  | [], h, _, _ => rw [← h] at m0; exact absurd m0 (by simp)
  | y :: r, _, _, m2 => exact absurd ((m2 (iOf y)).mpr (by simp)) (by simp)
/-- _law_things_of -/
def b_law_things_of : SM :=
  (sSeq (sSetM 1 (mC (.dict [])))
  (sSeq (sFor (mSeq (mVar 0)) (gT 3 (gsCons (gN 2) (gsCons (gN 3) (gsCons (gN 4) gsNil))))
  (sFor (mSeq (mVar 4)) (gT 2 (gsCons (gN 5) (gsCons (gN 6) gsNil)))
    (sPut 1 (mVar 5) (mBin fAdd (mDGet2 (mMut 1) (mVar 5) (mC (.int 0))) (mBin fMul (mVar 3) (mVar 6))))))
  (sFrz 1 (sRet (mVar 1)))))
def m_law_things_of : FM := mFun 1 7 b_law_things_of
def c_law_things_of : FM := fun ds Q _ => ∃ L : List PRun, ds = [.list (L.map prD)] ∧ L.length ≤ 2000 ∧ (∀ x, x ∈ L → prOk x) ∧ Q (.dict (tabD (accT (flatP L))))
theorem c_law_things_of_ok : ∀ ds Q E, c_law_things_of ds Q E → m_law_things_of ds Q E := by
  rintro ds Q E ⟨L, rfl, hl, hx, q⟩
  unfold m_law_things_of b_law_things_of
  walk_at "dl"
  refine forL_inv (fun i δ => ∃ a b c x y, δ = [DV.v (D.list (L.map prD)), .m (.dict (tabD (accT (flatP (L.take i))))), a, b, c, x, y]) (fun i d δ N hd ⟨a, b, c, x, y, hδ⟩ hN => ?_) ⟨.u, .u, .u, .u, .u, rfl⟩ fun δ ⟨a, b, c, x, y, hδ⟩ => ?_
  · subst hδ
    rw [List.getElem?_map, Option.map_eq_some_iff] at hd
    obtain ⟨⟨r, n, f⟩, hp, rfl⟩ := hd
    have hi := (List.getElem?_eq_some_iff.mp hp).1
    have ht : L.take (i + 1) = L.take i ++ [(r, n, f)] := by rw [List.take_succ_eq_append_getElem hi, (List.getElem?_eq_some_iff.mp hp).2]
    have ho := hx (r, n, f) (List.mem_of_getElem? hp)
    rw [show prD (r, n, f) = .tup [.int r, .int n, .tup (f.map pairD)] from rfl]
    walk_at "dl"
    rw [ht] at hN
    generalize hT : flatP (L.take i) = T at hN
    rw [flat_snoc, hT] at hN
    refine forL_inv (fun j δ => ∃ x y, δ = [DV.v (D.list (L.map prD)), .m (.dict (tabD (accT (T ++ (f.take j).map fun q => (q.1, n * q.2))))), .v (.int r), .v (.int n), .v (.tup (f.map pairD)), x, y]) (fun j d δ N hd ⟨x, y, hδ⟩ hN => ?_) ⟨x, y, by simp⟩ fun δ ⟨x, y, hδ⟩ => ?_
    · subst hδ
      rw [List.getElem?_map, Option.map_eq_some_iff] at hd
      obtain ⟨⟨s, k⟩, hp, rfl⟩ := hd
      have hj := (List.getElem?_eq_some_iff.mp hp).1
      have htf : f.take (j + 1) = f.take j ++ [(s, k)] := by rw [List.take_succ_eq_append_getElem hj, (List.getElem?_eq_some_iff.mp hp).2]
      have hk := ho.2.1.2.1 (s, k) (List.mem_of_getElem? hp)
      rw [htf, List.map_append, ← List.append_assoc, List.map_cons, List.map_nil, acc_snoc] at hN
      rw [show pairD (s, k) = .tup [.int s, .int k] from rfl]
      walk_at "dl"
      have hn1 : 1 ≤ n ∧ n < 10 ^ 200 := ho.1.2
      have hk1 : 1 ≤ k ∧ k < 10 ^ 200 := hk.2
      refine ⟨lim200 (by omega) hn1.2 (by omega) hk1.2, ?_⟩
      have hlen := acc_len (T ++ (f.take j).map fun q => (q.1, n * q.2))
      have hTl : T.length ≤ 12 * 2000 := by
        rw [← hT]
        refine Nat.le_trans (flatP_len fun x hx' => (hx x (List.mem_of_mem_take hx')).2.1) (Nat.mul_le_mul_left _ ?_)
        rw [List.length_take]; omega
      have hfl := ho.2.1.1
      rw [List.length_append, List.length_map, List.length_take] at hlen
      have hfl : f.length ≤ 12 := hfl
      have hn := (acc_facts (T ++ (f.take j).map fun q => (q.1, n * q.2))).1
      generalize accT (T ++ (f.take j).map fun q => (q.1, n * q.2)) = M at hN hlen hn ⊢
      have ec : (valD (tabD M) (Sum.inl s)).getD (D.int 0) = .int (cntT M s) := by
        rw [valD_tab]
        unfold cntT
        cases valT M s <;> rfl
      rw [ec]
      walk_at "dl"
      rw [tab_len, inc_put hn]
      exact ⟨by omega, hN _ ⟨_, _, rfl⟩⟩
    · subst hδ
      rw [List.length_map, List.take_length]
      exact hN _ ⟨_, _, _, _, _, rfl⟩
  · subst hδ
    rw [List.length_map, List.take_length]
    walk_at "dl"
    exact q
/-- _law_few_right -/
def b_law_few_right : SM :=
  (sSeq (sSet 1 (mCall c_law_sizes_any (mCons (mVar 0) (mCons (mC (.int 3)) mNil))))
  (sSeq (sSet 2 (mCall c_law_drawn_runs (mCons (mVar 0) (mCons (mVar 1) (mCons (mC (.int 4)) (mCons (mC (.int 3)) mNil))))))
  (sSeq (sAsg (mTup (mCons (mCall c_law_made_packing (mCons (mVar 2) mNil)) (mCons (mCall c_law_single (mCons (mVar 2) mNil)) mNil))) (gT 2 (gsCons (gN 3) (gsCons (gN 4) gsNil))))
  (sSeq (sFor (mKeys (mCall c_law_things_of (mCons (mVar 2) mNil))) (gN 5)
  (sSeq (sSetM 6 (mLst mNil))
    (sSeq (sFor (mEnumL (mCons (mVar 4) mNil)) (gT 2 (gsCons (gN 7) (gsCons (gT 2 (gsCons (gN 8) (gsCons (gN 9) gsNil))) gsNil)))
    (sExt 6 (mRep (mLst (mCons (mVar 7) mNil)) (mDGet2 (mB fDictP (mCons (mB fList (mCons (mVar 9) mNil)) mNil)) (mVar 5) (mC (.int 0))))))
    (sFrz 6 (sIf (mCmpT fNe (mComp [10] (mRange1 (mCons (mB fLen (mCons (mVar 6) mNil)) mNil)) (gN 10) mYes (mMethS "Packing" c_Packing_spot_of (mVar 3) (mCons (mVar 5) (mCons (mVar 10) mNil)))) (mVar 6))
    (sRet (mC (.bool false)))
    sNext)))))
  (sRet (mC (.bool true)))))))
def m_law_few_right : FM := mFun 1 11 b_law_few_right
def c_law_few_right : FM := fun ds Q _ => ds = [.dice] ∧ Q (.bool true)
theorem c_law_few_right_ok : ∀ ds Q E, c_law_few_right ds Q E → m_law_few_right ds Q E := by
  rintro ds Q E ⟨rfl, q⟩
  unfold m_law_few_right b_law_few_right
  walk_at "dl"
  refine ⟨3, rfl, by decide, by decide, fun ss s0 sn sl sb => ?_⟩
  walk_at "dl"
  refine ⟨ss, 4, 3, rfl, by decide, by decide, by decide, sn, by omega, fun s hs => ⟨(sb s hs).1, Int.le_trans (sb s hs).2 (by decide +kernel)⟩, fun L hL => ?_⟩
  walk_at "dl"
  have hx := hL.2
  have hl : L.length ≤ 8 := hL.1
  have hj := join_prok (M := L) (by omega) fun x h => ⟨(hx x h).1, Int.le_trans (hx x h).2.2.1 (by decide +kernel)⟩
  refine ⟨L, ss, rfl, by omega, fun x h => ⟨(hx x h).1, Int.le_trans (hx x h).2.2.1 (by decide +kernel)⟩, fun x h p hp => ((hx x h).2.2.2 p hp).1, by omega, ?_⟩
  refine ⟨L, rfl, by omega, fun x h => ⟨(hx x h).1.1.2.1, by have := (hx x h).2.2.1; omega⟩, ?_⟩
  walk_at "dl"
  refine ⟨L, rfl, by omega, fun x h => (hx x h).1, ?_⟩
  walk_at "dl"
  rw [tab_keysL]
  obtain ⟨hn, hc, hk⟩ := acc_facts (flatP L)
  have hsl := sing_len (L := L) (M := 3) fun x h => (hx x h).2.2.1
  refine forL_inv (fun i δ => ∃ a b c d e f, δ = [DV.v .dice, .v (.list (ss.map .int)), .v (.list (L.map prD)), .v (packD (joinR L)), .v (.list ((singR L).map sgD)), a, b, c, d, e, f]) (fun i d δ N hd ⟨a, b, c, d', e, f, hδ⟩ hN => ?_) ⟨.u, .u, .u, .u, .u, .u, rfl⟩ fun δ ⟨a, b, c, d, e, f, hδ⟩ => ?_
  rotate_left
  · exact q
  subst hδ
  rw [List.getElem?_map, Option.map_eq_some_iff] at hd
  obtain ⟨s, hs, rfl⟩ := hd
  have hsm := (hk s).mp (List.mem_of_getElem? hs)
  have hsu := flat_in (fun x h p hp => ((hx x h).2.2.2 p hp).1) s hsm
  have hsb := sb s hsu
  walk_at "dl"
  refine forL_inv (fun j δ => ∃ x y z, δ = [DV.v .dice, .v (.list (ss.map .int)), .v (.list (L.map prD)), .v (packD (joinR L)), .v (.list ((singR L).map sgD)), .v (.int s), .m (.list ((dueS s ((singR L).take j) 0).map .int)), x, y, z, f]) (fun j d δ N hd ⟨x, y, z, hδ⟩ hN => ?_) ⟨_, _, _, rfl⟩ fun δ ⟨x, y, z, hδ⟩ => ?_
  · subst hδ
    have hj := (List.getElem?_eq_some_iff.mp hd).1
    rw [enumD_len, List.length_map] at hj
    obtain ⟨p, hp⟩ : ∃ p, (singR L)[j]? = some p := ⟨_, List.getElem?_eq_getElem hj⟩
    rw [enumD_get (d := sgD p) (by rw [List.getElem?_map, hp]; rfl), Option.some.injEq] at hd
    subst hd
    have ht : (singR L).take (j + 1) = (singR L).take j ++ [p] := by rw [List.take_succ_eq_append_getElem hj, (List.getElem?_eq_some_iff.mp hp).2]
    obtain ⟨u, hu, rfl⟩ := sing_mem (List.mem_of_getElem? hp)
    obtain ⟨r, n, g⟩ := u
    have hg := (hx _ hu).1.2.1
    have g3 : cntT g s ≤ 3 := cnt_le hg (m := 3) (by decide) (fun p hp => ((hx _ hu).2.2.2 p hp).2) s
    rw [ht, due_snoc] at hN
    rw [show sgD ((r, n, g).1, (r, n, g).2.2) = .tup [.int r, .tup (g.map pairD)] from rfl]
    walk_at "dl"
    refine dictP_tab (fill_nd hg) ⟨_, rfl, ?_⟩
    walk_at "dl"
    rw [tab_get]
    have g0 : 0 ≤ cntT g s := (fill_cnt hg s).1
    have few : (dueS s ((singR L).take j) 0).length ≤ ((singR L).take j).length * 3 := due_few s fun p hp => by
      obtain ⟨u, hu', rfl⟩ := sing_mem (List.mem_of_mem_take hp)
      exact cnt_le (hx _ hu').1.2.1 (m := 3) (by decide) (fun p hp => ((hx _ hu').2.2.2 p hp).2) s
    rw [List.length_take] at few
    rw [show (List.map D.int (dueS s ((singR L).take j) 0 ++ List.replicate (cntT ((r, n, g).1, (r, n, g).2.2).2 s).toNat ((((singR L).take j).length : Nat) : Int))) = List.map D.int (dueS s ((singR L).take j) 0) ++ (List.replicate (cntT g s).toNat [D.int j]).flatten by
      rw [List.flatten_replicate_singleton, List.map_append, List.map_replicate, List.length_take, Nat.min_eq_left (by omega)]] at hN
    refine ⟨_, _, rfl, rfl, by omega, by omega, ?_, ?_, hN _ ⟨_, _, _, rfl⟩⟩
    · rw [List.length_singleton]; omega
    · rw [List.flatten_replicate_singleton, List.length_replicate, List.length_map]; omega
  · subst hδ
    rw [enumD_len, List.length_map, List.take_length]
    walk_at "dl"
    have few : (dueS s (singR L) 0).length ≤ (singR L).length * 3 := due_few s fun p hp => by
      obtain ⟨u, hu', rfl⟩ := sing_mem hp
      exact cnt_le (hx _ hu').1.2.1 (m := 3) (by decide) (fun p hp => ((hx _ hu').2.2.2 p hp).2) s
    rw [List.length_map, Int.toNat_natCast]
    refine ⟨by omega, by omega, ?_⟩
    refine compL_map (fun d => .int ((dueS s (singR L) 0)[(iOf d).toNat]?.getD 0)) (fun d hd R S hR => ?_) ?_
    · obtain ⟨i, hi, rfl⟩ := rangeD_mem hd
      rw [Int.zero_add] at hR ⊢
      have ei : (dueS s (singR L) 0)[i]? = some (dueS s (singR L) 0)[i] := List.getElem?_eq_getElem hi
      have hp1 : ∀ x, x ∈ L → 1 ≤ x.2.1 := fun x h => (hx x h).1.1.2.1
      have sj := spot_due s (L := joinR L) (i := i) (a := 0) fun x h => ⟨(hj x h).1.2.1, (fill_cnt (hj x h).2.1 s).1⟩
      rw [sing_join hp1, ei] at sj
      have tj := due_tot s (L := joinR L) 0 fun x h => ⟨(hj x h).1.2.1, fill_nd (hj x h).2.1, (fill_cnt (hj x h).2.1 s).1⟩
      rw [sing_join hp1] at tj
      rw [iOf_int, Int.toNat_natCast, ei] at hR
      walk_at "dl"
      have jl := joinR_len L
      exact ⟨_, rfl, joinR L, s, i, _, rfl, by omega, hj, ⟨hsb.1, by omega⟩, by omega, by omega, by omega, sj.symm, hR⟩
    · rw [List.nil_append, due_list fun i t e => by rw [iOf_int, Int.toNat_natCast, e]; rfl]
      refine fNe_same ((fineN_list (n := 0) fun d hd => ?_).fine (by decide)) ?_
      · obtain ⟨k, _, rfl⟩ := List.mem_map.mp hd
        exact fineN_int
      · rw [if_neg (by decide)]
        exact hN _ ⟨_, _, _, _, _, _, rfl⟩
/-- Packing.number -/
def b_Packing_number : SM :=
  (sRet (mB fSum (mCons (mComp [1, 2, 3] (mSeq (mSl "Packing" (mVar 0))) (gT 3 (gsCons (gN 1) (gsCons (gN 2) (gsCons (gN 3) gsNil)))) mYes (mVar 2)) mNil)))
def m_Packing_number : FM := mFun 1 4 b_Packing_number
def c_Packing_number : FM := fun ds Q _ => ∃ L : List PRun, ds = [packD L] ∧ Q (.int (numP L))
theorem c_Packing_number_ok : ∀ ds Q E, c_Packing_number ds Q E → m_Packing_number ds Q E := by
  rintro ds Q E ⟨L, rfl, q⟩
  unfold m_Packing_number b_Packing_number packD
  walk_at "dl"
  refine ⟨_, rfl, .inr ⟨_, rfl, ?_⟩⟩
  refine compL_map (fun d => match d with | .tup [_, n, _] => n | _ => .none) (fun d hd R S hR => ?_) ?_
  · obtain ⟨⟨r, n, f⟩, hp, rfl⟩ := List.mem_map.mp hd
    rw [show prD (r, n, f) = .tup [.int r, .int n, fillD f] from rfl] at hR ⊢
    walk_at "dl"
    exact hR
  · refine ⟨L.map fun x : PRun => x.2.1, ?_, q⟩
    rw [List.nil_append, List.map_map, List.map_map] <;> rfl
/-- Packing.run_at -/
def b_Packing_run_at : SM :=
  (sSeq (sIf (mNotT (mTest (mCall c_is_index (mCons (mVar 1) (mCons (mPropS "Packing" c_Packing_number (mVar 0)) mNil)))))
  (sRaise "InvalidNumber" "value" (mVar 1))
  sNext)
  (sSeq (sSet 2 (mVar 1))
  (sFor (mSeq (mSl "Packing" (mVar 0))) (gT 3 (gsCons (gN 3) (gsCons (gN 4) (gsCons (gN 5) gsNil))))
  (sSeq (sIf (mCmpT fLt (mVar 2) (mVar 4))
    (sRet (mTup (mCons (mVar 3) (mCons (mVar 4) (mCons (mVar 5) mNil)))))
    sNext)
    (sAug 2 fAugSub (mVar 4))))))
def m_Packing_run_at : FM := mFun 2 6 b_Packing_run_at
def c_Packing_run_at : FM := fun ds Q _ => ∃ (L : List PRun) (i : Int) (x : PRun), ds = [packD L, .int i] ∧ 0 ≤ i ∧ i < 10 ^ 200 ∧ i < numP L ∧ runAt L i = some x ∧ Q (prD x)
theorem c_Packing_run_at_ok : ∀ ds Q E, c_Packing_run_at ds Q E → m_Packing_run_at ds Q E := by
  rintro ds Q E ⟨L, i, x, rfl, i0, i1, hn, hr, q⟩
  unfold m_Packing_run_at b_Packing_run_at
  walk_at "dl"
  refine ⟨_, rfl, L, rfl, ?_⟩
  refine ⟨_, _, rfl, .inl rfl, ?_⟩
  rw [show cntD (.int i) = true by simp only [cntD, Bool.and_eq_true, decide_eq_true_eq]; exact ⟨i0, i1⟩, show iOf (.int i) = i from rfl, decide_eq_true hn]
  refine ⟨_, rfl, ?_⟩
  rw [if_neg (by decide)]
  refine ⟨_, rfl, .inr ⟨_, rfl, ?_⟩⟩
  refine forL_ind (fun ds δ => ∃ (M : List PRun) (j : Int) (a b c : DV), ds = M.map prD ∧ runAt M j = some x ∧ δ = [.v (packD L), .v (.int i), .v (.int j), a, b, c]) (fun δ ⟨M, j, a, b, c, e, h, _⟩ => ?_) (fun d ds δ N ⟨M, j, a, b, c, e, h, hδ⟩ hN => ?_) ⟨L, i, .u, .u, .u, rfl, hr, rfl⟩
  · cases M with
    | nil => cases h
    | cons _ _ => cases e
  · subst hδ
    cases M with
    | nil => cases e
    | cons p M =>
      obtain ⟨r, n, f⟩ := p
      rw [List.map_cons, List.cons.injEq] at e
      obtain ⟨rfl, rfl⟩ := e
      rw [show prD (r, n, f) = .tup [.int r, .int n, fillD f] from rfl]
      walk_at "dl"
      unfold runAt at h
      by_cases c : j < n
      · rw [if_pos c, Option.some.injEq] at h
        subst h
        rw [if_pos (decide_eq_true c)]
        exact q
      · rw [if_neg c] at h
        rw [if_neg (by rw [decide_eq_true_eq]; exact c)]
        exact hN _ ⟨M, _, _, _, _, rfl, h, rfl⟩
/-- Packing.room_at -/
def b_Packing_room_at : SM :=
  (sSeq (sAsg (mMethS "Packing" c_Packing_run_at (mVar 0) (mCons (mVar 1) mNil)) (gT 3 (gsCons (gN 2) (gsCons (gN 3) (gsCons (gN 4) gsNil)))))
  (sRet (mTup (mCons (mVar 2) (mCons (mVar 4) mNil)))))
def m_Packing_room_at : FM := mFun 2 5 b_Packing_room_at
def c_Packing_room_at : FM := fun ds Q _ => ∃ (L : List PRun) (i : Int) (x : PRun), ds = [packD L, .int i] ∧ 0 ≤ i ∧ i < 10 ^ 200 ∧ i < numP L ∧ runAt L i = some x ∧ Q (.tup [.int x.1, fillD x.2.2])
theorem c_Packing_room_at_ok : ∀ ds Q E, c_Packing_room_at ds Q E → m_Packing_room_at ds Q E := by
  rintro ds Q E ⟨L, i, x, rfl, i0, i1, hn, hr, q⟩
  unfold m_Packing_room_at b_Packing_room_at
  walk_at "dl"
  refine ⟨_, rfl, L, i, x, rfl, i0, i1, hn, hr, ?_⟩
  unfold prD
  walk_at "dl"
  exact q
/-- _law_great_right -/
def b_law_great_right : SM :=
  (sSeq (sSet 1 (mComp [2, 3, 4] (mSeq (mCall c_law_drawn_runs (mCons (mVar 0) (mCons (mLst (mCons (mC (.int 1)) (mCons (mC (.int 2)) (mCons (mC (.int 5)) mNil)))) (mCons (mC (.int 4)) (mCons (mC (.int 99)) mNil)))))) (gT 3 (gsCons (gN 2) (gsCons (gN 3) (gsCons (gN 4) gsNil)))) mYes (mTup (mCons (mVar 2) (mCons (mBin fAdd (mBin fMul (mVar 3) (mBin fPow (mC (.int 10)) (mC (.int 30)))) (mC (.int 1))) (mCons (mVar 4) mNil))))))
  (sSeq (sSet 5 (mCall c_law_made_packing (mCons (mVar 1) mNil)))
  (sSeq (sFor (mKeys (mCall c_law_things_of (mCons (mVar 1) mNil))) (gN 6)
  (sSeq (sSet 7 (mDGet (mCall c_law_things_of (mCons (mVar 1) mNil)) (mVar 6)))
    (sFor (mSeq (mLst (mCons (mC (.int 0)) (mCons (mBin fSub (mVar 7) (mC (.int 1))) (mCons (mBin fDiv (mVar 7) (mC (.int 2))) (mCons (mBin fAdd (mBin fDiv (mVar 7) (mC (.int 3))) (mBin fMod (mCall mRoll (mCons (mVar 0) (mCons (mBin fPow (mC (.int 10)) (mC (.int 6))) mNil))) (mB fMax2 (mCons (mC (.int 1)) (mCons (mBin fDiv (mVar 7) (mC (.int 3))) mNil))))) mNil)))))) (gN 8)
    (sSeq (sPar3 9 10 11 (mCons (mMethS "Packing" c_Packing_spot_of (mVar 5) (mCons (mVar 6) (mCons (mVar 8) mNil))) (mCons (mC (.int 0)) (mCons (mC (.int 0)) mNil))))
      (sSeq (sFor (mSeq (mVar 1)) (gT 3 (gsCons (gN 2) (gsCons (gN 3) (gsCons (gN 4) gsNil))))
      (sSeq (sSet 12 (mB fMin2 (mCons (mVar 3) (mCons (mB fMax2 (mCons (mC (.int 0)) (mCons (mBin fSub (mVar 9) (mVar 11)) mNil))) mNil))))
        (sPar 10 11 (mCons (mBin fAdd (mVar 10) (mBin fMul (mVar 12) (mDGet2 (mB fDictP (mCons (mB fList (mCons (mVar 4) mNil)) mNil)) (mVar 6) (mC (.int 0))))) (mCons (mBin fAdd (mVar 11) (mVar 3)) mNil)))))
      (sSeq (sSet 13 (mDGet2 (mB fDictP (mCons (mB fList (mCons (mBin fIx (mMethS "Packing" c_Packing_room_at (mVar 5) (mCons (mVar 9) mNil)) (mC (.int 1))) mNil)) mNil)) (mVar 6) (mC (.int 0))))
      (sIf (mNotT (mChainT fLe fLt (mVar 10) (mVar 8) (mBin fAdd (mVar 10) (mVar 13))))
      (sRet (mC (.bool false)))
      sNext)))))))
  (sRet (mC (.bool true))))))
def m_law_great_right : FM := mFun 1 14 b_law_great_right
def bigR (x : PRun) : PRun := (x.1, x.2.1 * 10 ^ 30 + 1, x.2.2)
def c_law_great_right : FM := fun ds Q _ => ds = [.dice] ∧ Q (.bool true)
theorem c_law_great_right_ok : ∀ ds Q E, c_law_great_right ds Q E → m_law_great_right ds Q E := by
  rintro ds Q E ⟨rfl, q⟩
  unfold m_law_great_right b_law_great_right
  walk_at "dl"
  refine ⟨[1, 2, 5], 4, 99, rfl, by decide, by decide, by decide, by decide, by decide, fun s hs => ?_, fun L0 hL => ?_⟩
  · simp only [List.mem_cons, List.not_mem_nil, or_false] at hs
    rcases hs with rfl | rfl | rfl <;> exact ⟨by decide, by decide +kernel⟩
  refine .inl ⟨_, rfl, ?_⟩
  refine compL_map (fun d => match d with | .tup [r, .int n, f] => .tup [r, .int (n * 10 ^ 30 + 1), f] | _ => .none) (fun d hd R S hR => ?_) ?_
  · obtain ⟨⟨r, n, f⟩, hp, rfl⟩ := List.mem_map.mp hd
    rw [show prD (r, n, f) = .tup [.int r, .int n, fillD f] from rfl] at hR ⊢
    walk_at "dl"
    have hn := (hL.2 _ hp).1.1.2
    have hn1 : 1 ≤ n ∧ n < 10 ^ 200 := hn
    exact ⟨⟨by decide, by decide⟩, lim200 (by omega) hn1.2 (by decide) (by decide +kernel), hR⟩
  · rw [show [] ++ List.map (fun d => match d with | .tup [r, .int n, f] => .tup [r, .int (n * 10 ^ 30 + 1), f] | _ => .none) (L0.map prD) = (L0.map bigR).map prD by rw [List.nil_append, List.map_map, List.map_map] <;> rfl]
    have hx : ∀ x, x ∈ L0.map bigR → prOk x ∧ x.2.1 ≤ 10 ^ 33 ∧ ∀ p, p ∈ x.2.2 → p.1 ∈ [1, 2, 5] ∧ p.2 ≤ 3 := fun x h => by
      obtain ⟨y, hy, rfl⟩ := List.mem_map.mp h
      obtain ⟨⟨h1, h2⟩, h3, h4, h5⟩ := hL.2 y hy
      obtain ⟨r, n, f⟩ := y
      have h2 : fillOk f ∧ loadT f ≤ r := h2
      have h4 : n ≤ 99 := h4
      have h1' : 1 ≤ n := h1.2.1
      refine ⟨⟨⟨h1.1, ?_, ?_⟩, h2⟩, ?_, h5⟩
      · show 1 ≤ n * 10 ^ 30 + 1; omega
      · show n * 10 ^ 30 + 1 < 10 ^ 200; omega
      · show n * 10 ^ 30 + 1 ≤ 10 ^ 33; omega
    have hl : (L0.map bigR).length ≤ 8 := by rw [List.length_map]; exact hL.1
    generalize L0.map bigR = L at hx hl
    have hj := join_prok (M := L) (by omega) fun x h => ⟨(hx x h).1, Int.le_trans (hx x h).2.1 (by decide +kernel)⟩
    refine ⟨L, [1, 2, 5], rfl, by omega, fun x h => ⟨(hx x h).1, Int.le_trans (hx x h).2.1 (by decide +kernel)⟩, fun x h p hp => ((hx x h).2.2 p hp).1, by decide, ?_⟩
    walk_at "dl"
    refine ⟨L, rfl, by omega, fun x h => (hx x h).1, ?_⟩
    walk_at "dl"
    rw [tab_keysL]
    obtain ⟨hn, hc, hk⟩ := acc_facts (flatP L)
    refine forL_inv (fun i δ => ∃ a b c d e f g h k l m, δ = [DV.v .dice, .v (.list (L.map prD)), a, b, c, .v (packD (joinR L)), d, e, f, g, h, k, l, m]) (fun i d δ N hd ⟨a, b, c, d', e, f, g, h, k, l, m, hδ⟩ hN => ?_) ⟨_, _, _, _, _, _, _, _, _, _, _, rfl⟩ fun δ ⟨a, b, c, d', e, f, g, h, k, l, m, hδ⟩ => ?_
    rotate_left
    · exact q
    subst hδ
    rw [List.getElem?_map, Option.map_eq_some_iff] at hd
    obtain ⟨s, hs, rfl⟩ := hd
    have hsk := List.mem_of_getElem? hs
    have hsm := (hk s).mp hsk
    have hsu := flat_in (fun x h p hp => ((hx x h).2.2 p hp).1) s hsm
    walk_at "dl"
    refine ⟨L, rfl, by omega, fun x h => (hx x h).1, ?_⟩
    walk_at "dl"
    have hv : valD (tabD (accT (flatP L))) (.inl s) = some (.int (totK (flatP L) s)) := by
      obtain ⟨p, hp, rfl⟩ := List.mem_map.mp hsk
      rw [valD_tab, valT_mem hn hp, ← hc]
      unfold cntT
      rw [valT_mem hn hp] <;> rfl
    rw [hv]
    have hx1 : ∀ x, x ∈ L → 1 ≤ x.2.1 ∧ (keysT x.2.2).Nodup ∧ 0 ≤ cntT x.2.2 s := fun x h => ⟨(hx x h).1.1.2.1, fill_nd (hx x h).1.2.1, (fill_cnt (hx x h).1.2.1 s).1⟩
    have hj1 : ∀ x, x ∈ joinR L → 1 ≤ x.2.1 ∧ (keysT x.2.2).Nodup ∧ 0 ≤ cntT x.2.2 s := fun x h => ⟨(hj x h).1.2.1, fill_nd (hj x h).2.1, (fill_cnt (hj x h).2.1 s).1⟩
    obtain ⟨_, t2, t3⟩ := tot_bnd (B := 3 * 10 ^ 33) (k := s) (F := flatP L) (by decide +kernel) fun p hp => by
      unfold flatP at hp
      obtain ⟨x, hx', hp⟩ := List.mem_flatMap.mp hp
      obtain ⟨y, hy, rfl⟩ := List.mem_map.mp hp
      obtain ⟨r, n, f⟩ := x
      have a1 : 1 ≤ n := (hx _ hx').1.1.2.1
      have a2 : n ≤ 10 ^ 33 := (hx _ hx').2.1
      have b1 : 1 ≤ y.2 := ((hx _ hx').1.2.1.2.1 y hy).2.1
      have b2 : y.2 ≤ 3 := ((hx _ hx').2.2 y hy).2
      show 1 ≤ n * y.2 ∧ n * y.2 ≤ 3 * 10 ^ 33
      have : y.2 = 1 ∨ y.2 = 2 ∨ y.2 = 3 := by omega
      rcases this with e | e | e <;> rw [e] <;> omega
    have t1 := t3 hsm
    have ft := flatP_len fun x h => (hx x h).1.2.1
    have t4 : totK (flatP L) s ≤ 10 ^ 40 := by
      have : ((flatP L).length : Int) * (3 * 10 ^ 33) ≤ 96 * (3 * 10 ^ 33) := Int.mul_le_mul_of_nonneg_right (by omega) (by decide +kernel)
      exact Int.le_trans t2 (Int.le_trans this (by decide +kernel))
    have tj : totK (flatP (joinR L)) s = totK (flatP L) s := tot_join L s
    generalize hT : totK (flatP L) s = T at t1 t4 tj
    refine ⟨_, rfl, ?_⟩
    walk_at "dl"
    refine ⟨div_ok' (by decide) (by decide +kernel), div_ok' (by decide) (by decide +kernel), ⟨by decide, by decide⟩, _, rfl, by decide, by decide, fun w w0 w1 => ?_⟩
    refine ⟨div_ok' (by decide) (by decide +kernel), ?_⟩
    walk_at "dl"
    obtain ⟨v, hv1, v1, v2⟩ : ∃ v : Int, (if T / 3 > 1 then T / 3 else 1) = v ∧ 1 ≤ v ∧ (v = 1 ∨ v = T / 3) := by
      refine ⟨_, rfl, ?_⟩
      split <;> omega
    rw [hv1]
    have w2 := Int.emod_nonneg w (Int.ne_of_gt v1)
    have w3 := Int.emod_lt_of_pos w v1
    refine ⟨v1, ?_⟩
    obtain ⟨u, hu, u0, u1⟩ : ∃ u : Int, T / 3 + w % v = u ∧ 0 ≤ u ∧ u < T := ⟨_, rfl, by omega, by omega⟩
    rw [hu]
    have all : ∀ d, d ∈ [D.int 0, .int (T - 1), .int (T / 2), .int u] → ∃ x : Int, d = .int x ∧ 0 ≤ x ∧ x < T := fun d hd => by
      simp only [List.mem_cons, List.not_mem_nil, or_false] at hd
      rcases hd with rfl | rfl | rfl | rfl
      · exact ⟨_, rfl, by omega, by omega⟩
      · exact ⟨_, rfl, by omega, by omega⟩
      · exact ⟨_, rfl, by omega, by omega⟩
      · exact ⟨_, rfl, u0, u1⟩
    generalize [D.int 0, .int (T - 1), .int (T / 2), .int u] = vs at all
    refine forL_inv (fun i δ => ∃ a b c e f g h k l, δ = [DV.v .dice, .v (.list (L.map prD)), a, b, c, .v (packD (joinR L)), .v (.int s), .v (.int T), e, f, g, h, k, l]) (fun i d δ N hd ⟨a, b, c, e, f, g, h, k, l, hδ⟩ hN => ?_) ⟨_, _, _, _, _, _, _, _, _, rfl⟩ fun δ ⟨a, b, c, e, f, g, h, k, l, hδ⟩ => ?_
    rotate_left
    · exact hN _ ⟨_, _, _, _, _, _, _, _, _, _, _, hδ⟩
    subst hδ
    obtain ⟨x, rfl, x0, x1⟩ := all d (List.mem_of_getElem? hd)
    obtain ⟨t, ht, t0, ta, fl, hf, tb⟩ := spot_ok s (a := 0) hj1 x0 (by rw [tj]; exact x1)
    rw [Int.zero_add] at ht
    have jl := joinR_len L
    walk_at "dl"
    refine ⟨_, rfl, joinR L, s, x, t, rfl, by omega, hj, ?_, x0, by omega, by rw [tj]; exact x1, ht, ?_⟩
    · simp only [List.mem_cons, List.not_mem_nil, or_false] at hsu
      rcases hsu with rfl | rfl | rfl <;> exact ⟨by decide, by decide +kernel⟩
    walk_at "dl"
    refine forL_inv (fun j δ => ∃ a b c k l, δ = [DV.v .dice, .v (.list (L.map prD)), a, b, c, .v (packD (joinR L)), .v (.int s), .v (.int T), .v (.int x), .v (.int t), .v (.int (aheadR s (L.take j) t)), .v (.int (numP (L.take j))), k, l]) (fun j d δ N hd ⟨a, b, c, k, l, hδ⟩ hN => ?_) ⟨_, _, _, _, _, rfl⟩ fun δ ⟨a, b, c, k, l, hδ⟩ => ?_
    · subst hδ
      rw [List.getElem?_map, Option.map_eq_some_iff] at hd
      obtain ⟨⟨r, n, f⟩, hp, rfl⟩ := hd
      have hi := (List.getElem?_eq_some_iff.mp hp).1
      have ht : L.take (j + 1) = L.take j ++ [(r, n, f)] := by rw [List.take_succ_eq_append_getElem hi, (List.getElem?_eq_some_iff.mp hp).2]
      have ho := hx (r, n, f) (List.mem_of_getElem? hp)
      rw [show prD (r, n, f) = .tup [.int r, .int n, .tup (f.map pairD)] from rfl]
      rw [ht, ahead_app, num_app] at hN
      walk_at "dl"
      refine dictP_tab (fill_nd ho.1.2.1) ⟨_, rfl, ?_⟩
      walk_at "dl"
      rw [tab_get]
      walk_at "dl"
      obtain ⟨c0, c1⟩ := fill_cnt ho.1.2.1 s
      have hn1 : 1 ≤ n := ho.1.1.2.1
      have hn2 : n ≤ 10 ^ 33 := ho.2.1
      have em : (if (if t - numP (L.take j) > 0 then t - numP (L.take j) else 0) < n then if t - numP (L.take j) > 0 then t - numP (L.take j) else 0 else n) = min n (max 0 (t - numP (L.take j))) := by
        repeat split
        all_goals omega
      rw [em]
      rw [show aheadR s [(r, n, f)] (t - numP (L.take j)) = min n (max 0 (t - numP (L.take j))) * cntT f s from Int.add_zero _, show numP [(r, n, f)] = n from Int.add_zero _] at hN
      exact ⟨lim200 (by omega) (by omega) c0 c1, hN _ ⟨_, _, _, _, _, rfl⟩⟩
    · subst hδ
      rw [List.length_map, List.take_length]
      walk_at "dl"
      rw [fill_run] at hf
      obtain ⟨y, hy, ey⟩ := Option.map_eq_some_iff.mp hf
      have hL1 : ∀ x, x ∈ L → 1 ≤ x.2.1 := fun x h => (hx1 x h).1
      have aj := ahead_join s hL1 t
      have tn := run_lt aj.2 hy
      have tm := numP_le fun x h => (hx x h).2.1
      have tm2 : (L.length : Int) * 10 ^ 33 ≤ 8 * 10 ^ 33 := Int.mul_le_mul_of_nonneg_right (by omega) (by decide +kernel)
      rw [← num_join] at tm
      rw [aj.1] at ta tb
      refine ⟨_, rfl, joinR L, t, y, rfl, t0, by omega, tn, hy, ?_⟩
      rw [ey]
      have hfo : fillOk fl := by rw [← ey]; exact (hj y (run_mem hy)).2.1
      unfold fillD
      walk_at "dl"
      refine dictP_tab (fill_nd hfo) ⟨_, rfl, ?_⟩
      rw [tab_get, if_pos (decide_eq_true ta)]
      walk_at "dl"
      rw [decide_eq_true tb, if_neg (by decide)]
      exact hN _ ⟨_, _, _, _, _, _, _, _, _, rfl⟩
/-- law -/
def b_law : SM :=
  (sSeq (sFor (mRange1 (mCons (mB fMax2 (mCons (mC (.int 1)) (mCons (mB fMin2 (mCons (mC (.int 6)) (mCons (mB fLen (mCons (mVar 0) mNil)) mNil))) mNil))) mNil)) (gN 1)
  (sSeq (sSet 2 (mCall c_law_dice (mCons (mVar 0) (mCons (mVar 1) mNil))))
    (sIf (mOrT (mNotT (mTest (mCall c_law_few_right (mCons (mVar 2) mNil)))) (mNotT (mTest (mCall c_law_great_right (mCons (mVar 2) mNil)))))
    (sRet (mC (.bool false)))
    sNext)))
  (sSeq (sSet 3 (mMakeI "Packing" c_Packing_init (mCons (mTup (mCons (mC (.int 10)) (mCons (mBin fPow (mC (.int 10)) (mC (.int 20))) (mCons (mTup (mCons (mTup (mCons (mC (.int 1)) (mCons (mC (.int 4)) mNil))) (mCons (mTup (mCons (mC (.int 6)) (mCons (mC (.int 1)) mNil))) mNil))) mNil)))) (mCons (mTup (mCons (mC (.int 7)) (mCons (mC (.int 5)) (mCons (mTup (mCons (mTup (mCons (mC (.int 2)) (mCons (mC (.int 3)) mNil))) mNil)) mNil)))) mNil))))
  (sRet (mCmp fEq (mLst (mCons (mMethS "Packing" c_Packing_spot_of (mVar 3) (mCons (mC (.int 1)) (mCons (mBin fSub (mBin fMul (mC (.int 4)) (mBin fPow (mC (.int 10)) (mC (.int 20)))) (mC (.int 1))) mNil))) (mCons (mMethS "Packing" c_Packing_spot_of (mVar 3) (mCons (mC (.int 2)) (mCons (mC (.int 14)) mNil))) (mCons (mMethS "Packing" c_Packing_spot_of (mVar 3) (mCons (mC (.int 6)) (mCons (mC (.int 7)) mNil))) mNil)))) (mLst (mCons (mBin fSub (mBin fPow (mC (.int 10)) (mC (.int 20))) (mC (.int 1))) (mCons (mBin fAdd (mBin fPow (mC (.int 10)) (mC (.int 20))) (mC (.int 4))) (mCons (mC (.int 7)) mNil))))))))
def m_law : FM := mFun 1 4 b_law
theorem law_true : LawTrue m_law := by
  intro ns hns
  unfold m_law b_law
  walk_at "dl"
  refine ⟨by split <;> omega, by split <;> (try split) <;> omega, ?_⟩
  refine forL_inv (fun _ δ => ∃ a b c, δ = [DV.v (.script ns), a, b, c]) (fun i d δ N hd ⟨a, b, c, hδ⟩ hN => ?_) ⟨_, _, _, rfl⟩ fun δ ⟨a, b, c, hδ⟩ => ?_
  · subst hδ
    obtain ⟨k, hk, rfl⟩ := rangeD_mem (List.mem_of_getElem? hd)
    walk_at "dl"
    refine ⟨ns, k, rfl, ?_⟩
    walk_at "dl"
    refine ⟨rfl, _, rfl, ?_⟩
    rw [if_neg (by decide)]
    refine ⟨rfl, _, rfl, ?_⟩
    rw [if_neg (by decide)]
    exact hN _ ⟨_, _, _, rfl⟩
  · subst hδ
    walk_at "dl"
    have ok : ∀ x : PRun, x ∈ [((10 : Int), (10 ^ 20 : Int), [((1 : Int), (4 : Int)), (6, 1)]), (7, 5, [(2, 3)])] → prOk x := fun x hx => by
      simp only [List.mem_cons, List.not_mem_nil, or_false] at hx
      rcases hx with rfl | rfl
      · refine ⟨⟨⟨by decide, by decide +kernel⟩, by decide +kernel, by decide +kernel⟩, ⟨by decide, fun p hp => ?_, by decide⟩, by decide⟩
        simp only [List.mem_cons, List.not_mem_nil, or_false] at hp
        rcases hp with rfl | rfl <;> exact ⟨⟨by decide, by decide +kernel⟩, by decide, by decide +kernel⟩
      · refine ⟨⟨⟨by decide, by decide +kernel⟩, by decide +kernel, by decide +kernel⟩, ⟨by decide, fun p hp => ?_, by decide⟩, by decide⟩
        simp only [List.mem_cons, List.not_mem_nil, or_false] at hp
        rcases hp with rfl
        exact ⟨⟨by decide, by decide +kernel⟩, by decide, by decide +kernel⟩
    refine ⟨⟨by decide, by decide⟩, [((10 : Int), (10 ^ 20 : Int), [((1 : Int), (4 : Int)), (6, 1)]), (7, 5, [(2, 3)])], rfl, by decide, ok, by decide +kernel, by decide +kernel, ?_⟩
    walk_at "dl"
    refine ⟨_, rfl, ⟨by decide, by decide⟩, lim200 (by decide) (by decide +kernel) (by decide +kernel) (by decide +kernel), ?_⟩
    refine ⟨[((10 : Int), (10 ^ 20 : Int), [((1 : Int), (4 : Int)), (6, 1)]), (7, 5, [(2, 3)])], _, _, 10 ^ 20 - 1, rfl, by decide, ok, ⟨by decide, by decide +kernel⟩, by decide +kernel, by decide +kernel, by decide +kernel, by decide +kernel, ?_⟩
    refine ⟨_, rfl, [((10 : Int), (10 ^ 20 : Int), [((1 : Int), (4 : Int)), (6, 1)]), (7, 5, [(2, 3)])], _, _, 10 ^ 20 + 4, rfl, by decide, ok, ⟨by decide, by decide +kernel⟩, by decide +kernel, by decide +kernel, by decide +kernel, by decide +kernel, ?_⟩
    refine ⟨_, rfl, [((10 : Int), (10 ^ 20 : Int), [((1 : Int), (4 : Int)), (6, 1)]), (7, 5, [(2, 3)])], _, _, 7, rfl, by decide, ok, ⟨by decide, by decide +kernel⟩, by decide +kernel, by decide +kernel, by decide +kernel, by decide +kernel, ?_⟩
    refine ⟨⟨by decide, by decide⟩, ⟨by decide, by decide⟩, ?_⟩
    refine fEq_same ((fineN_list (n := 0) fun d hd => ?_).fine (by decide)) rfl
    simp only [List.mem_cons, List.not_mem_nil, or_false] at hd
    rcases hd with rfl | rfl | rfl <;> exact fineN_int
end DL.Law
set_option Elab.async false
set_option linter.all false
set_option maxRecDepth 100000
set_option maxHeartbeats 4000000
namespace DL.Law
open DL
open PySem PySem.Spec PyProof.Rows L2
variable [TabsC]
structure Txt (K : PySem.W.Frag) (mg : Str → Option Value) where
  C_Packing : Addr
  n_Packing : PySem.W.nsIn K mainGlobals "Packing" = some (some (.ref C_Packing))
  g_Packing : mg "Packing" = some (.ref C_Packing)
  sc_Packing : SlX.SCls K C_Packing
  q_Packing : Addr
  st_Packing : SlX.Slot1 K C_Packing "own_runs" q_Packing 0
  ki_Packing : kitAll K C_Packing = true
  kits : KitOwn K owns
  kback : BackOwn K owns
  ksl : KitSl K owns sls
  C_InvalidNumber : Addr
  n_InvalidNumber : PySem.W.nsIn K mainGlobals "InvalidNumber" = some (some (.ref C_InvalidNumber))
  g_InvalidNumber : mg "InvalidNumber" = some (.ref C_InvalidNumber)
  fi_InvalidNumber : Addr
  x_InvalidNumber : OwnX K C_InvalidNumber fi_InvalidNumber "InvalidNumber" "InvalidNumber.__init__" "value" [.type "IndexError", .type "LookupError", .type "Exception", .type "BaseException", .type "object"] "IndexError.__new__"
  xf_InvalidNumber : XfC K C_InvalidNumber
  C_InvalidPacking : Addr
  n_InvalidPacking : PySem.W.nsIn K mainGlobals "InvalidPacking" = some (some (.ref C_InvalidPacking))
  g_InvalidPacking : mg "InvalidPacking" = some (.ref C_InvalidPacking)
  xi_InvalidPacking : PySem.W.excIn K C_InvalidPacking [.type "ValueError", .type "Exception", .type "BaseException", .type "object"] "ValueError.__new__" = true
  kp_InvalidPacking : PySem.W.keepIn K (.ref C_InvalidPacking) = true
  sb_InvalidPacking : PySem.W.subIn K (.ref C_InvalidPacking) (.type "BaseException") = some true
  ty_InvalidPacking : PySem.W.typeIn K (.ref C_InvalidPacking) = some (.type "type")
  C_NoRoom : Addr
  n_NoRoom : PySem.W.nsIn K mainGlobals "NoRoom" = some (some (.ref C_NoRoom))
  g_NoRoom : mg "NoRoom" = some (.ref C_NoRoom)
  fi_NoRoom : Addr
  x_NoRoom : OwnX K C_NoRoom fi_NoRoom "NoRoom" "NoRoom.__init__" "size" [.type "LookupError", .type "Exception", .type "BaseException", .type "object"] "LookupError.__new__"
  xf_NoRoom : XfC K C_NoRoom
  f_is_integer : Addr
  d_is_integer : FuncData
  F_is_integer : Fun K "is_integer" "is_integer" s_is_integer f_is_integer d_is_integer
  b_is_integer : Binds K d_is_integer ["value"] []
  m_is_integer : mg "is_integer" = some (.ref f_is_integer)
  k_is_integer : PySem.W.keepIn K (.ref f_is_integer) = true
  f_is_size : Addr
  d_is_size : FuncData
  F_is_size : Fun K "is_size" "is_size" s_is_size f_is_size d_is_size
  b_is_size : Binds K d_is_size ["value"] []
  m_is_size : mg "is_size" = some (.ref f_is_size)
  k_is_size : PySem.W.keepIn K (.ref f_is_size) = true
  f_is_filling : Addr
  d_is_filling : FuncData
  F_is_filling : Fun K "is_filling" "is_filling" s_is_filling f_is_filling d_is_filling
  b_is_filling : Binds K d_is_filling ["value"] []
  m_is_filling : mg "is_filling" = some (.ref f_is_filling)
  k_is_filling : PySem.W.keepIn K (.ref f_is_filling) = true
  f_load_in : Addr
  d_load_in : FuncData
  F_load_in : Fun K "load_in" "load_in" s_load_in f_load_in d_load_in
  b_load_in : Binds K d_load_in ["filling"] []
  m_load_in : mg "load_in" = some (.ref f_load_in)
  k_load_in : PySem.W.keepIn K (.ref f_load_in) = true
  f_is_run : Addr
  d_is_run : FuncData
  F_is_run : Fun K "is_run" "is_run" s_is_run f_is_run d_is_run
  b_is_run : Binds K d_is_run ["value"] []
  m_is_run : mg "is_run" = some (.ref f_is_run)
  k_is_run : PySem.W.keepIn K (.ref f_is_run) = true
  f_joined_runs : Addr
  d_joined_runs : FuncData
  F_joined_runs : Fun K "joined_runs" "joined_runs" s_joined_runs f_joined_runs d_joined_runs
  b_joined_runs : Binds K d_joined_runs ["runs"] []
  m_joined_runs : mg "joined_runs" = some (.ref f_joined_runs)
  k_joined_runs : PySem.W.keepIn K (.ref f_joined_runs) = true
  f_rooms_in : Addr
  d_rooms_in : FuncData
  F_rooms_in : Fun K "rooms_in" "rooms_in" s_rooms_in f_rooms_in d_rooms_in
  b_rooms_in : Binds K d_rooms_in ["runs"] []
  m_rooms_in : mg "rooms_in" = some (.ref f_rooms_in)
  k_rooms_in : PySem.W.keepIn K (.ref f_rooms_in) = true
  f_sizes_in : Addr
  d_sizes_in : FuncData
  F_sizes_in : Fun K "sizes_in" "sizes_in" s_sizes_in f_sizes_in d_sizes_in
  b_sizes_in : Binds K d_sizes_in ["runs"] []
  m_sizes_in : mg "sizes_in" = some (.ref f_sizes_in)
  k_sizes_in : PySem.W.keepIn K (.ref f_sizes_in) = true
  f_Packing_init : Addr
  d_Packing_init : FuncData
  F_Packing_init : Fun K "__init__" "Packing.__init__" s_Packing_init f_Packing_init d_Packing_init
  b_Packing_init : ∀ us rest : List Value, us.length = (["self"] : List Str).length → bindArgs d_Packing_init ⟨us ++ rest, []⟩ = (newTuple rest >>= fun t => pure ((["self"] : List Str).zip us ++ [(("runs" : Str), t)]))
  mk_Packing : Mk K C_Packing f_Packing_init
  f_Packing_things : Addr
  d_Packing_things : FuncData
  F_Packing_things : Fun K "things" "Packing.things" s_Packing_things f_Packing_things d_Packing_things
  b_Packing_things : Binds K d_Packing_things ["self"] []
  me_Packing_things : Meth K C_Packing "things" f_Packing_things
  f_is_count : Addr
  d_is_count : FuncData
  F_is_count : Fun K "is_count" "is_count" s_is_count f_is_count d_is_count
  b_is_count : Binds K d_is_count ["value"] []
  m_is_count : mg "is_count" = some (.ref f_is_count)
  k_is_count : PySem.W.keepIn K (.ref f_is_count) = true
  f_is_index : Addr
  d_is_index : FuncData
  F_is_index : Fun K "is_index" "is_index" s_is_index f_is_index d_is_index
  b_is_index : Binds K d_is_index ["value", "many"] []
  m_is_index : mg "is_index" = some (.ref f_is_index)
  k_is_index : PySem.W.keepIn K (.ref f_is_index) = true
  f_Packing_spot_of : Addr
  d_Packing_spot_of : FuncData
  F_Packing_spot_of : Fun K "spot_of" "Packing.spot_of" s_Packing_spot_of f_Packing_spot_of d_Packing_spot_of
  b_Packing_spot_of : Binds K d_Packing_spot_of ["self", "size", "index"] []
  me_Packing_spot_of : Meth K C_Packing "spot_of" f_Packing_spot_of
  f_law_dice : Addr
  d_law_dice : FuncData
  F_law_dice : Fun K "_law_dice" "_law_dice" s_law_dice f_law_dice d_law_dice
  b_law_dice : Binds K d_law_dice ["script", "spot"] []
  m_law_dice : mg "_law_dice" = some (.ref f_law_dice)
  k_law_dice : PySem.W.keepIn K (.ref f_law_dice) = true
  f_law_filling_of : Addr
  d_law_filling_of : FuncData
  F_law_filling_of : Fun K "_law_filling_of" "_law_filling_of" s_law_filling_of f_law_filling_of d_law_filling_of
  b_law_filling_of : Binds K d_law_filling_of ["counts"] []
  m_law_filling_of : mg "_law_filling_of" = some (.ref f_law_filling_of)
  k_law_filling_of : PySem.W.keepIn K (.ref f_law_filling_of) = true
  f_law_roll : Addr
  d_law_roll : FuncData
  F_law_roll : Fun K "_law_roll" "_law_roll" s_law_roll f_law_roll d_law_roll
  b_law_roll : Binds K d_law_roll ["dice", "total"] []
  m_law_roll : mg "_law_roll" = some (.ref f_law_roll)
  k_law_roll : PySem.W.keepIn K (.ref f_law_roll) = true
  f_law_drawn_filling : Addr
  d_law_drawn_filling : FuncData
  F_law_drawn_filling : Fun K "_law_drawn_filling" "_law_drawn_filling" s_law_drawn_filling f_law_drawn_filling d_law_drawn_filling
  b_law_drawn_filling : Binds K d_law_drawn_filling ["dice", "sizes", "most"] []
  m_law_drawn_filling : mg "_law_drawn_filling" = some (.ref f_law_drawn_filling)
  k_law_drawn_filling : PySem.W.keepIn K (.ref f_law_drawn_filling) = true
  f_law_load : Addr
  d_law_load : FuncData
  F_law_load : Fun K "_law_load" "_law_load" s_law_load f_law_load d_law_load
  b_law_load : Binds K d_law_load ["filling"] []
  m_law_load : mg "_law_load" = some (.ref f_law_load)
  k_law_load : PySem.W.keepIn K (.ref f_law_load) = true
  f_law_pick : Addr
  d_law_pick : FuncData
  F_law_pick : Fun K "_law_pick" "_law_pick" s_law_pick f_law_pick d_law_pick
  b_law_pick : Binds K d_law_pick ["dice", "items"] []
  m_law_pick : mg "_law_pick" = some (.ref f_law_pick)
  k_law_pick : PySem.W.keepIn K (.ref f_law_pick) = true
  f_law_drawn_runs : Addr
  d_law_drawn_runs : FuncData
  F_law_drawn_runs : Fun K "_law_drawn_runs" "_law_drawn_runs" s_law_drawn_runs f_law_drawn_runs d_law_drawn_runs
  b_law_drawn_runs : Binds K d_law_drawn_runs ["dice", "sizes", "many", "greatest"] []
  m_law_drawn_runs : mg "_law_drawn_runs" = some (.ref f_law_drawn_runs)
  k_law_drawn_runs : PySem.W.keepIn K (.ref f_law_drawn_runs) = true
  f_Packing_joined : Addr
  d_Packing_joined : FuncData
  F_Packing_joined : Fun K "joined" "Packing.joined" s_Packing_joined f_Packing_joined d_Packing_joined
  b_Packing_joined : Binds K d_Packing_joined ["self", "other"] []
  me_Packing_joined : Meth K C_Packing "joined" f_Packing_joined
  f_law_made_packing : Addr
  d_law_made_packing : FuncData
  F_law_made_packing : Fun K "_law_made_packing" "_law_made_packing" s_law_made_packing f_law_made_packing d_law_made_packing
  b_law_made_packing : Binds K d_law_made_packing ["runs"] []
  m_law_made_packing : mg "_law_made_packing" = some (.ref f_law_made_packing)
  k_law_made_packing : PySem.W.keepIn K (.ref f_law_made_packing) = true
  f_law_single : Addr
  d_law_single : FuncData
  F_law_single : Fun K "_law_single" "_law_single" s_law_single f_law_single d_law_single
  b_law_single : Binds K d_law_single ["runs"] []
  m_law_single : mg "_law_single" = some (.ref f_law_single)
  k_law_single : PySem.W.keepIn K (.ref f_law_single) = true
  f_law_chain : Addr
  d_law_chain : FuncData
  F_law_chain : Fun K "_law_chain" "_law_chain" s_law_chain f_law_chain d_law_chain
  b_law_chain : Binds K d_law_chain ["dice", "many", "start"] []
  m_law_chain : mg "_law_chain" = some (.ref f_law_chain)
  k_law_chain : PySem.W.keepIn K (.ref f_law_chain) = true
  f_law_sizes_any : Addr
  d_law_sizes_any : FuncData
  F_law_sizes_any : Fun K "_law_sizes_any" "_law_sizes_any" s_law_sizes_any f_law_sizes_any d_law_sizes_any
  b_law_sizes_any : Binds K d_law_sizes_any ["dice", "many"] []
  m_law_sizes_any : mg "_law_sizes_any" = some (.ref f_law_sizes_any)
  k_law_sizes_any : PySem.W.keepIn K (.ref f_law_sizes_any) = true
  f_law_things_of : Addr
  d_law_things_of : FuncData
  F_law_things_of : Fun K "_law_things_of" "_law_things_of" s_law_things_of f_law_things_of d_law_things_of
  b_law_things_of : Binds K d_law_things_of ["runs"] []
  m_law_things_of : mg "_law_things_of" = some (.ref f_law_things_of)
  k_law_things_of : PySem.W.keepIn K (.ref f_law_things_of) = true
  f_law_few_right : Addr
  d_law_few_right : FuncData
  F_law_few_right : Fun K "_law_few_right" "_law_few_right" s_law_few_right f_law_few_right d_law_few_right
  b_law_few_right : Binds K d_law_few_right ["dice"] []
  m_law_few_right : mg "_law_few_right" = some (.ref f_law_few_right)
  k_law_few_right : PySem.W.keepIn K (.ref f_law_few_right) = true
  f_Packing_number : Addr
  d_Packing_number : FuncData
  F_Packing_number : Fun K "number" "Packing.number" s_Packing_number f_Packing_number d_Packing_number
  b_Packing_number : Binds K d_Packing_number ["self"] []
  p_Packing_number : Addr
  pr_Packing_number : PropOf K C_Packing "number" p_Packing_number f_Packing_number
  f_Packing_run_at : Addr
  d_Packing_run_at : FuncData
  F_Packing_run_at : Fun K "run_at" "Packing.run_at" s_Packing_run_at f_Packing_run_at d_Packing_run_at
  b_Packing_run_at : Binds K d_Packing_run_at ["self", "index"] []
  me_Packing_run_at : Meth K C_Packing "run_at" f_Packing_run_at
  f_Packing_room_at : Addr
  d_Packing_room_at : FuncData
  F_Packing_room_at : Fun K "room_at" "Packing.room_at" s_Packing_room_at f_Packing_room_at d_Packing_room_at
  b_Packing_room_at : Binds K d_Packing_room_at ["self", "index"] []
  me_Packing_room_at : Meth K C_Packing "room_at" f_Packing_room_at
  f_law_great_right : Addr
  d_law_great_right : FuncData
  F_law_great_right : Fun K "_law_great_right" "_law_great_right" s_law_great_right f_law_great_right d_law_great_right
  b_law_great_right : Binds K d_law_great_right ["dice"] []
  m_law_great_right : mg "_law_great_right" = some (.ref f_law_great_right)
  k_law_great_right : PySem.W.keepIn K (.ref f_law_great_right) = true
  f_law : Addr
  d_law : FuncData
  F_law : Fun K "law" "law" s_law f_law d_law
  b_law : Binds K d_law ["script"] []
  m_law : mg "law" = some (.ref f_law)
  k_law : PySem.W.keepIn K (.ref f_law) = true
  z_abs : mg "abs" = none
  z_all : mg "all" = none
  z_bool : mg "bool" = none
  z_dict : mg "dict" = none
  z_enumerate : mg "enumerate" = none
  z_int : mg "int" = none
  z_isinstance : mg "isinstance" = none
  z_len : mg "len" = none
  z_list : mg "list" = none
  z_max : mg "max" = none
  z_min : mg "min" = none
  z_range : mg "range" = none
  z_set : mg "set" = none
  z_sorted : mg "sorted" = none
  z_sum : mg "sum" = none
  z_tuple : mg "tuple" = none
  z_zip : mg "zip" = none
  t_LIMIT : Tok
  g_LIMIT : mg "LIMIT" = some (.int 100000000000000000000000000000000000000000000000000000000000000000000000000000000000000000000000000000000000000000000000000000000000000000000000000000000000000000000000000000000000000000000000000000000 t_LIMIT)
  t_MAX_RUNS : Tok
  g_MAX_RUNS : mg "MAX_RUNS" = some (.int 2000 t_MAX_RUNS)
  t_MAX_SIZES : Tok
  g_MAX_SIZES : mg "MAX_SIZES" = some (.int 12 t_MAX_SIZES)
  t_MAX_STORE : Tok
  g_MAX_STORE : mg "MAX_STORE" = some (.int 40 t_MAX_STORE)
section
variable {P : Program} {w : World} {K : PySem.W.Frag} {mg : Str → Option Value} {base : Heap}
abbrev N_is_integer : List Str := ["value"]
theorem ok_is_integer (T : Txt K mg) : FnD P w K mg base 1 T.f_is_integer c_is_integer := by
  have sc : FnScope N_is_integer ["value"] (defScope s_is_integer) := ⟨rfl, rfl, rfl, by decide +kernel, rfl, by decide +kernel, by decide +kernel⟩
  have hN := sc.nd
  refine FnD.imp (fnD_of (m := b_is_integer) T.F_is_integer sc T.b_is_integer fun cdv A outer s H E hG hr => ?_) c_is_integer_ok
  exact (dss_one (ds_ret (de_and (de_isiT T.kits T.kback (by decide) rfl T.z_isinstance (de_var 0 (pv 0)) rfl T.z_int bt_int) (de_and (de_not (de_isiT T.kits T.kback (by decide) rfl T.z_isinstance (de_var 0 (pv 0)) rfl T.z_bool bt_bool)) (de_one (de_chain op_ltD link_lt op_ltD link_lt (de_neg (de_const (v := V.int 100000000000000000000000000000000000000000000000000000000000000000000000000000000000000000000000000000000000000000000000000000000000000000000000000000000000000000000000000000000000000000000000000000000) (pe_glob rfl T.g_LIMIT ⟨_, rfl⟩) fun _ => .int _)) (de_var 0 (pv 0)) (de_const (v := V.int 100000000000000000000000000000000000000000000000000000000000000000000000000000000000000000000000000000000000000000000000000000000000000000000000000000000000000000000000000000000000000000000000000000000) (pe_glob rfl T.g_LIMIT ⟨_, rfl⟩) fun _ => .int _)))))))
abbrev N_is_size : List Str := ["value"]
theorem ok_is_size (T : Txt K mg) : FnD P w K mg base 2 T.f_is_size c_is_size := by
  have sc : FnScope N_is_size ["value"] (defScope s_is_size) := ⟨rfl, rfl, rfl, by decide +kernel, rfl, by decide +kernel, by decide +kernel⟩
  have hN := sc.nd
  refine FnD.imp (fnD_of (m := b_is_size) T.F_is_size sc T.b_is_size fun cdv A outer s H E hG hr => ?_) c_is_size_ok
  exact (dss_one (ds_ret (de_and (de_call (ok_is_integer T) hG (hr.mono (by decide)) (takes_of rfl rfl rfl rfl) rfl T.m_is_integer T.k_is_integer (da_cons (de_var 0 (pv 0)) da_nil)) (de_one (de_cmp op_geD link_ge (nomark _) (de_var 0 (pv 0)) de_int)))))
abbrev N_is_filling : List Str := ["value", "part", "one", "other"]
theorem ok_is_filling (T : Txt K mg) : FnD P w K mg base 3 T.f_is_filling c_is_filling := by
  have sc : FnScope N_is_filling ["value"] (defScope s_is_filling) := ⟨rfl, rfl, rfl, by decide +kernel, rfl, by decide +kernel, by decide +kernel⟩
  have hN := sc.nd
  refine FnD.imp (fnD_of (m := b_is_filling) T.F_is_filling sc T.b_is_filling fun cdv A outer s H E hG hr => ?_) c_is_filling_ok
  exact (dss_cons (ds_if (dt_w (dw_or (dt_not (dt_val (de_isiT T.kits T.kback (by decide) rfl T.z_isinstance (de_var 0 (pv 0)) rfl T.z_tuple bt_tuple))) (dw_or1 (dt_cmp op_gtD link_gt (nomark _) (de_callB call_len link_len rfl T.z_len bt_len (da_cons (DE.up (de_var 0 (pv 0))) da_nil)) (de_const (v := V.int 12) (pe_glob rfl T.g_MAX_SIZES ⟨_, rfl⟩) fun _ => .int _)))))
  (dss_one (ds_ret de_bool))
  dss_nil)
  (dss_cons (ds_for (passes_of rfl) rfl (di_seq (ba := false) (de_var 0 (pv 0))) (dg_name 1 (pg_name hN rfl (by first | exact .inl rfl | exact .inr rfl)))
  (dss_one (ds_if (dt_w (dw_or (dt_not (dt_val (de_isiT T.kits T.kback (by decide) rfl T.z_isinstance (de_var 1 (pv 1)) rfl T.z_tuple bt_tuple))) (dw_or (dt_cmp (op_neD hr.units) link_ne (nomark _) (de_callB call_len link_len rfl T.z_len bt_len (da_cons (DE.up (de_var 1 (pv 1))) da_nil)) de_int) (dw_or (dt_not (dt_val (de_call (ok_is_size T) hG (hr.mono (by decide)) (takes_of rfl rfl rfl rfl) rfl T.m_is_size T.k_is_size (da_cons (de_ix (fun _ _ => rfl) (de_var 1 (pv 1)) de_int) da_nil)))) (dw_or1 (dt_not (dt_val (de_call (ok_is_size T) hG (hr.mono (by decide)) (takes_of rfl rfl rfl rfl) rfl T.m_is_size T.k_is_size (da_cons (de_ix (fun _ _ => rfl) (de_var 1 (pv 1)) de_int) da_nil)))))))))
    (dss_one (ds_ret de_bool))
    dss_nil)))
  (dss_one (ds_ret (de_callB (cr_all rfl) link_all rfl T.z_all bt_all (da_cons (DE.up (DF.de (ba := false) (df_comp (own := [("one", 2), ("other", 3)]) rfl hN (di_zip (ba := true) rfl T.z_zip (da_cons (DE.up (de_var 0 (pv 0))) (da_cons (DE.up (de_slice (de_var 0 (pv 0)) (do_some de_int) do_none)) da_nil))) (blkOk_by (N := N_is_filling) (sc := defScope s_is_filling) (by decide +kernel)) (fun _ _ _ _ _ => (dgw_tup rfl (dgws_cons (dgw_name 2 (pg_name hN rfl (by first | exact .inl rfl | exact .inr rfl))) (dgws_cons (dgw_name 3 (pg_name hN rfl (by first | exact .inl rfl | exact .inr rfl))) dgws_nil)))) (fun _ _ _ _ _ => dts_nil) (fun _ _ _ _ _ => (de_cmp op_ltD link_lt (nomark _) (de_ix (fun _ _ => rfl) (de_var 2 (pv 2)) de_int) (de_ix (fun _ _ => rfl) (de_var 3 (pv 3)) de_int)))))) da_nil))))))
abbrev N_load_in : List Str := ["filling", "size", "count"]
theorem ok_load_in (T : Txt K mg) : FnD P w K mg base 1 T.f_load_in c_load_in := by
  have sc : FnScope N_load_in ["filling"] (defScope s_load_in) := ⟨rfl, rfl, rfl, by decide +kernel, rfl, by decide +kernel, by decide +kernel⟩
  have hN := sc.nd
  refine FnD.imp (fnD_of (m := b_load_in) T.F_load_in sc T.b_load_in fun cdv A outer s H E hG hr => ?_) c_load_in_ok
  exact (dss_one (ds_ret (de_callB (cr_sum rfl) link_sum rfl T.z_sum bt_sum (da_cons (DE.up (DF.de (ba := false) (df_comp (own := [("size", 1), ("count", 2)]) rfl hN (di_seq (ba := true) (DE.up (de_var 0 (pv 0)))) (blkOk_by (N := N_load_in) (sc := defScope s_load_in) (by decide +kernel)) (fun _ _ _ _ _ => (dgw_tup rfl (dgws_cons (dgw_name 1 (pg_name hN rfl (by first | exact .inl rfl | exact .inr rfl))) (dgws_cons (dgw_name 2 (pg_name hN rfl (by first | exact .inl rfl | exact .inr rfl))) dgws_nil)))) (fun _ _ _ _ _ => dts_nil) (fun _ _ _ _ _ => (de_mul (de_var 1 (pv 1)) (de_var 2 (pv 2))))))) da_nil))))
abbrev N_is_run : List Str := ["value"]
theorem ok_is_run (T : Txt K mg) : FnD P w K mg base 4 T.f_is_run c_is_run := by
  have sc : FnScope N_is_run ["value"] (defScope s_is_run) := ⟨rfl, rfl, rfl, by decide +kernel, rfl, by decide +kernel, by decide +kernel⟩
  have hN := sc.nd
  refine FnD.imp (fnD_of (m := b_is_run) T.F_is_run sc T.b_is_run fun cdv A outer s H E hG hr => ?_) c_is_run_ok
  exact (dss_cons (ds_if (dt_w (dw_or (dt_not (dt_val (de_isiT T.kits T.kback (by decide) rfl T.z_isinstance (de_var 0 (pv 0)) rfl T.z_tuple bt_tuple))) (dw_or (dt_cmp (op_neD hr.units) link_ne (nomark _) (de_callB call_len link_len rfl T.z_len bt_len (da_cons (DE.up (de_var 0 (pv 0))) da_nil)) de_int) (dw_or (dt_not (dt_val (de_call (ok_is_size T) hG (hr.mono (by decide)) (takes_of rfl rfl rfl rfl) rfl T.m_is_size T.k_is_size (da_cons (de_ix (fun _ _ => rfl) (de_var 0 (pv 0)) de_int) da_nil)))) (dw_or1 (dt_not (dt_val (de_call (ok_is_size T) hG (hr.mono (by decide)) (takes_of rfl rfl rfl rfl) rfl T.m_is_size T.k_is_size (da_cons (de_ix (fun _ _ => rfl) (de_var 0 (pv 0)) de_int) da_nil)))))))))
  (dss_one (ds_ret de_bool))
  dss_nil)
  (dss_one (ds_ret (de_and (de_call (ok_is_filling T) hG (hr.mono (by decide)) (takes_of rfl rfl rfl rfl) rfl T.m_is_filling T.k_is_filling (da_cons (de_ix (fun _ _ => rfl) (de_var 0 (pv 0)) de_int) da_nil)) (de_one (de_cmp op_leD link_le (nomark _) (de_call (ok_load_in T) hG (hr.mono (by decide)) (takes_of rfl rfl rfl rfl) rfl T.m_load_in T.k_load_in (da_cons (de_ix (fun _ _ => rfl) (de_var 0 (pv 0)) de_int) da_nil)) (de_ix (fun _ _ => rfl) (de_var 0 (pv 0)) de_int)))))))
abbrev N_joined_runs : List Str := ["runs", "found", "room", "many", "filling"]
theorem ok_joined_runs (T : Txt K mg) : FnD P w K mg base 1 T.f_joined_runs c_joined_runs := by
  have sc : FnScope N_joined_runs ["runs"] (defScope s_joined_runs) := ⟨rfl, rfl, rfl, by decide +kernel, rfl, by decide +kernel, by decide +kernel⟩
  have hN := sc.nd
  refine FnD.imp (fnD_of (m := b_joined_runs) T.F_joined_runs sc T.b_joined_runs fun cdv A outer s H E hG hr => ?_) c_joined_runs_ok
  exact (dss_cons (ds_setm 1 hN (df_lst da_nil))
  (dss_cons (ds_for (passes_of rfl) rfl (di_seq (ba := false) (de_var 0 (pv 0))) (dg_tup rfl (dgs_cons (dg_name 2 (pg_name hN rfl (by first | exact .inl rfl | exact .inr rfl))) (dgs_cons (dg_name 3 (pg_name hN rfl (by first | exact .inl rfl | exact .inr rfl))) (dgs_cons (dg_name 4 (pg_name hN rfl (by first | exact .inl rfl | exact .inr rfl))) dgs_nil))))
  (dss_one (ds_if (dt_w (dw_and (dt_cmp (op_neD hr.units) link_ne (nomark _) (de_mut 1 (pv 1)) (DF.de (ba := false) (df_lst da_nil))) (dw_and (dt_cmp (op_eqD hr.units) link_eq (nomark _) (de_ix (fun _ _ => rfl) (de_ix (fun _ _ => rfl) (de_mut 1 (pv 1)) (de_neg de_int)) de_int) (de_var 2 (pv 2))) (dw_and1 (dt_cmp (op_eqD hr.units) link_eq (nomark _) (de_ix (fun _ _ => rfl) (de_ix (fun _ _ => rfl) (de_mut 1 (pv 1)) (de_neg de_int)) de_int) (de_var 4 (pv 4)))))))
    (dss_one (ds_putL 1 (pv 1) (de_neg de_int) (de_tup (da_cons (de_var 2 (pv 2)) (da_cons (de_add (de_ix (fun _ _ => rfl) (de_ix (fun _ _ => rfl) (de_mut 1 (pv 1)) (de_neg de_int)) de_int) (de_var 3 (pv 3))) (da_cons (de_var 4 (pv 4)) da_nil))))))
    (dss_one (ds_app 1 (pv 1) (de_tup (da_cons (de_var 2 (pv 2)) (da_cons (de_var 3 (pv 3)) (da_cons (de_var 4 (pv 4)) da_nil)))))))))
  (dss_frz 1 (dss_one (ds_ret (de_var 1 (pv 1)))))))
abbrev N_rooms_in : List Str := ["runs", "found", "room", "many", "filling"]
theorem ok_rooms_in (T : Txt K mg) : FnD P w K mg base 1 T.f_rooms_in c_rooms_in := by
  have sc : FnScope N_rooms_in ["runs"] (defScope s_rooms_in) := ⟨rfl, rfl, rfl, by decide +kernel, rfl, by decide +kernel, by decide +kernel⟩
  have hN := sc.nd
  refine FnD.imp (fnD_of (m := b_rooms_in) T.F_rooms_in sc T.b_rooms_in fun cdv A outer s H E hG hr => ?_) c_rooms_in_ok
  exact (dss_cons (ds_setm 1 hN (df_lst da_nil))
  (dss_cons (ds_for (passes_of rfl) rfl (di_seq (ba := false) (de_var 0 (pv 0))) (dg_tup rfl (dgs_cons (dg_name 2 (pg_name hN rfl (by first | exact .inl rfl | exact .inr rfl))) (dgs_cons (dg_name 3 (pg_name hN rfl (by first | exact .inl rfl | exact .inr rfl))) (dgs_cons (dg_name 4 (pg_name hN rfl (by first | exact .inl rfl | exact .inr rfl))) dgs_nil))))
  (dss_one (ds_if (dt_w (dw_and (dt_cmp (op_neD hr.units) link_ne (nomark _) (de_mut 1 (pv 1)) (DF.de (ba := false) (df_lst da_nil))) (dw_and1 (dt_cmp (op_eqD hr.units) link_eq (nomark _) (de_ix (fun _ _ => rfl) (de_ix (fun _ _ => rfl) (de_mut 1 (pv 1)) (de_neg de_int)) de_int) (de_var 2 (pv 2))))))
    (dss_one (ds_putL 1 (pv 1) (de_neg de_int) (de_tup (da_cons (de_var 2 (pv 2)) (da_cons (de_add (de_ix (fun _ _ => rfl) (de_ix (fun _ _ => rfl) (de_mut 1 (pv 1)) (de_neg de_int)) de_int) (de_var 3 (pv 3))) da_nil)))))
    (dss_one (ds_app 1 (pv 1) (de_tup (da_cons (de_var 2 (pv 2)) (da_cons (de_var 3 (pv 3)) da_nil))))))))
  (dss_frz 1 (dss_one (ds_ret (de_var 1 (pv 1)))))))
abbrev N_sizes_in : List Str := ["runs", "room", "many", "filling", "size", "count"]
theorem ok_sizes_in (T : Txt K mg) : FnD P w K mg base 1 T.f_sizes_in c_sizes_in := by
  have sc : FnScope N_sizes_in ["runs"] (defScope s_sizes_in) := ⟨rfl, rfl, rfl, by decide +kernel, rfl, by decide +kernel, by decide +kernel⟩
  have hN := sc.nd
  refine FnD.imp (fnD_of (m := b_sizes_in) T.F_sizes_in sc T.b_sizes_in fun cdv A outer s H E hG hr => ?_) c_sizes_in_ok
  exact (dss_one (ds_ret (DF.de (ba := false) (df_compD2 (own := [("room", 1), ("many", 2), ("filling", 3), ("size", 4), ("count", 5)]) (vs1 := [4, 5]) rfl hN (di_seq (ba := true) (DE.up (de_var 0 (pv 0)))) (blkOk_by (N := N_sizes_in) (sc := defScope s_sizes_in) (by decide +kernel)) (by decide) (kg_T (kgs_cons (kg_N 1) (kgs_cons (kg_N 2) (kgs_cons (kg_N 3) kgs_nil)))) (fun _ _ _ _ _ => (dgw_tup rfl (dgws_cons (dgw_name 1 (pg_name hN rfl (by first | exact .inl rfl | exact .inr rfl))) (dgws_cons (dgw_name 2 (pg_name hN rfl (by first | exact .inl rfl | exact .inr rfl))) (dgws_cons (dgw_name 3 (pg_name hN rfl (by first | exact .inl rfl | exact .inr rfl))) dgws_nil))))) (fun _ _ _ _ _ => dts_nil) (fun _ _ _ _ _ => (di_seq (ba := false) (de_var 3 (pv 3)))) (fun _ _ _ _ _ => (dgw_tup rfl (dgws_cons (dgw_name 4 (pg_name hN rfl (by first | exact .inl rfl | exact .inr rfl))) (dgws_cons (dgw_name 5 (pg_name hN rfl (by first | exact .inl rfl | exact .inr rfl))) dgws_nil)))) (fun _ _ _ _ _ => dts_nil) (fun _ _ _ _ _ => (de_var 4 (pv 4))) (fun _ _ _ _ _ => de_bool)))))
abbrev N_Packing_init : List Str := ["self", "runs", "run", "found"]
theorem ok_Packing_init (T : Txt K mg) : FnI' P w K mg base 5 T.f_Packing_init "Packing" c_Packing_init := by
  have sc : FnScope N_Packing_init ((["self"] : List Str) ++ [("runs" : Str)]) (defScope s_Packing_init) := ⟨rfl, rfl, rfl, by decide +kernel, rfl, by decide +kernel, by decide +kernel⟩
  have hN := sc.nd
  refine FnI'.imp (fnI_star (m := b_Packing_init) (ma := v_Packing_init) T.F_Packing_init sc T.b_Packing_init T.n_Packing T.sc_Packing T.st_Packing (by rfl) fun cdv A outer s H E hG hr => ⟨_, _, _, _, _, rfl, ?_, ?_, pv 0, rfl⟩) c_Packing_init_ok
  · exact (dss_cons (ds_if (dt_w (dw_or (dt_cmp op_gtD link_gt (nomark _) (de_callB call_len link_len rfl T.z_len bt_len (da_cons (DE.up (de_var 1 (pv 1))) da_nil)) (de_const (v := V.int 2000) (pe_glob rfl T.g_MAX_RUNS ⟨_, rfl⟩) fun _ => .int _)) (dw_or1 (dt_not (dt_val (de_callB (cr_all rfl) link_all rfl T.z_all bt_all (da_cons (DE.up (DF.de (ba := false) (df_comp (own := [("run", 2)]) rfl hN (di_seq (ba := true) (DE.up (de_var 1 (pv 1)))) (blkOk_by (N := N_Packing_init) (sc := defScope s_Packing_init) (by decide +kernel)) (fun _ _ _ _ _ => (dgw_name 2 (pg_name hN rfl (by first | exact .inl rfl | exact .inr rfl)))) (fun _ _ _ _ _ => dts_nil) (fun _ _ _ _ _ => (de_call (ok_is_run T) hG (hr.mono (by decide)) takes0 rfl T.m_is_run T.k_is_run (da_cons (de_var 2 (pv 2)) da_nil)))))) da_nil)))))))
  (dss_one (ds_raise0 PySem.F.excBase_ValueError T.xi_InvalidPacking T.n_InvalidPacking T.g_InvalidPacking T.kp_InvalidPacking T.sb_InvalidPacking T.ty_InvalidPacking rfl (takes_of rfl rfl rfl rfl) rfl))
  dss_nil)
  (dss_cons (ds_set 3 hN (de_call (ok_joined_runs T) hG (hr.mono (by decide)) (takes_of rfl rfl rfl rfl) rfl T.m_joined_runs T.k_joined_runs (da_cons (de_var 1 (pv 1)) da_nil)))
  (dss_one (ds_if (dt_w (dw_or (dt_cmp op_gtD link_gt (nomark _) (de_callB call_lenY link_lenY rfl T.z_len bt_len (da_cons (DE.up (de_call (ok_sizes_in T) hG (hr.mono (by decide)) (takes_of rfl rfl rfl rfl) rfl T.m_sizes_in T.k_sizes_in (da_cons (de_var 3 (pv 3)) da_nil))) da_nil)) (de_const (v := V.int 12) (pe_glob rfl T.g_MAX_SIZES ⟨_, rfl⟩) fun _ => .int _)) (dw_or1 (dt_cmp op_gtD link_gt (nomark _) (de_callB call_len link_len rfl T.z_len bt_len (da_cons (DE.up (de_call (ok_rooms_in T) hG (hr.mono (by decide)) (takes_of rfl rfl rfl rfl) rfl T.m_rooms_in T.k_rooms_in (da_cons (de_var 3 (pv 3)) da_nil))) da_nil)) (de_const (v := V.int 40) (pe_glob rfl T.g_MAX_STORE ⟨_, rfl⟩) fun _ => .int _)))))
  (dss_one (ds_raise0 PySem.F.excBase_ValueError T.xi_InvalidPacking T.n_InvalidPacking T.g_InvalidPacking T.kp_InvalidPacking T.sb_InvalidPacking T.ty_InvalidPacking rfl (takes_of rfl rfl rfl rfl) rfl))
  dss_nil))))
  · exact (de_callT call_tuple_of link_tuple rfl T.z_tuple bt_tuple (da_cons (DE.up (de_var 3 (pv 3))) da_nil))
abbrev N_Packing_things : List Str := ["self", "found", "room", "many", "filling", "size", "count"]
theorem ok_Packing_things (T : Txt K mg) : FnD P w K mg base 1 T.f_Packing_things c_Packing_things := by
  have sc : FnScope N_Packing_things ["self"] (defScope s_Packing_things) := ⟨rfl, rfl, rfl, by decide +kernel, rfl, by decide +kernel, by decide +kernel⟩
  have hN := sc.nd
  refine FnD.imp (fnD_of (m := b_Packing_things) T.F_Packing_things sc T.b_Packing_things fun cdv A outer s H E hG hr => ?_) c_Packing_things_ok
  exact (dss_cons (ds_setm 1 hN df_dnew)
  (dss_cons (ds_for (passes_of rfl) rfl (di_seq (ba := false) (de_sl T.n_Packing T.sc_Packing T.st_Packing (de_var 0 (pv 0)))) (dg_tup rfl (dgs_cons (dg_name 2 (pg_name hN rfl (by first | exact .inl rfl | exact .inr rfl))) (dgs_cons (dg_name 3 (pg_name hN rfl (by first | exact .inl rfl | exact .inr rfl))) (dgs_cons (dg_name 4 (pg_name hN rfl (by first | exact .inl rfl | exact .inr rfl))) dgs_nil))))
  (dss_one (ds_for (passes_of rfl) rfl (di_seq (ba := false) (de_var 4 (pv 4))) (dg_tup rfl (dgs_cons (dg_name 5 (pg_name hN rfl (by first | exact .inl rfl | exact .inr rfl))) (dgs_cons (dg_name 6 (pg_name hN rfl (by first | exact .inl rfl | exact .inr rfl))) dgs_nil)))
    (dss_one (ds_put 1 (Nat.lt_of_le_of_lt (Nat.add_le_add_left (by decide : 1 ≤ 65) _) (units65 hr)) (pv 1) (de_var 5 (pv 5)) (de_add (de_dget2 (Nat.lt_of_le_of_lt (Nat.add_le_add_left (by decide : 1 ≤ 65) _) (units65 hr)) (de_mut 1 (pv 1)) (de_var 5 (pv 5)) de_int M2.of) (de_mul (de_var 3 (pv 3)) (de_var 6 (pv 6)))))))))
  (dss_frz 1 (dss_one (ds_ret (de_var 1 (pv 1)))))))
abbrev N_is_count : List Str := ["value"]
theorem ok_is_count (T : Txt K mg) : FnD P w K mg base 2 T.f_is_count c_is_count := by
  have sc : FnScope N_is_count ["value"] (defScope s_is_count) := ⟨rfl, rfl, rfl, by decide +kernel, rfl, by decide +kernel, by decide +kernel⟩
  have hN := sc.nd
  refine FnD.imp (fnD_of (m := b_is_count) T.F_is_count sc T.b_is_count fun cdv A outer s H E hG hr => ?_) c_is_count_ok
  exact (dss_one (ds_ret (de_and (de_call (ok_is_integer T) hG (hr.mono (by decide)) (takes_of rfl rfl rfl rfl) rfl T.m_is_integer T.k_is_integer (da_cons (de_var 0 (pv 0)) da_nil)) (de_one (de_cmp op_geD link_ge (nomark _) (de_var 0 (pv 0)) de_int)))))
abbrev N_is_index : List Str := ["value", "many"]
theorem ok_is_index (T : Txt K mg) : FnD P w K mg base 3 T.f_is_index c_is_index := by
  have sc : FnScope N_is_index ["value", "many"] (defScope s_is_index) := ⟨rfl, rfl, rfl, by decide +kernel, rfl, by decide +kernel, by decide +kernel⟩
  have hN := sc.nd
  refine FnD.imp (fnD_of (m := b_is_index) T.F_is_index sc T.b_is_index fun cdv A outer s H E hG hr => ?_) c_is_index_ok
  exact (dss_one (ds_ret (de_and (de_call (ok_is_count T) hG (hr.mono (by decide)) (takes_of rfl rfl rfl rfl) rfl T.m_is_count T.k_is_count (da_cons (de_var 0 (pv 0)) da_nil)) (de_one (de_cmp op_ltD link_lt (nomark _) (de_var 0 (pv 0)) (de_var 1 (pv 1)))))))
abbrev N_Packing_spot_of : List Str := ["self", "size", "index", "counts", "rest", "ahead", "room", "many", "filling", "count"]
theorem ok_Packing_spot_of (T : Txt K mg) : FnD P w K mg base 4 T.f_Packing_spot_of c_Packing_spot_of := by
  have sc : FnScope N_Packing_spot_of ["self", "size", "index"] (defScope s_Packing_spot_of) := ⟨rfl, rfl, rfl, by decide +kernel, rfl, by decide +kernel, by decide +kernel⟩
  have hN := sc.nd
  refine FnD.imp (fnD_of (m := b_Packing_spot_of) T.F_Packing_spot_of sc T.b_Packing_spot_of fun cdv A outer s H E hG hr => ?_) c_Packing_spot_of_ok
  exact (dss_cons (ds_set 3 hN (de_methS0 T.n_Packing T.sc_Packing (ok_Packing_things T) T.me_Packing_things hG (hr.mono (by decide)) (takes_of rfl rfl rfl rfl) (de_var 0 (pv 0)) rfl))
  (dss_cons (ds_if (dt_w (dw_or (dt_not (dt_val (de_call (ok_is_size T) hG (hr.mono (by decide)) (takes_of rfl rfl rfl rfl) rfl T.m_is_size T.k_is_size (da_cons (de_var 1 (pv 1)) da_nil)))) (dw_or1 (dt_cmp (op_notInY (units65 hr)) link_inY rfl (de_var 1 (pv 1)) (de_var 3 (pv 3))))))
  (dss_one (ds_raise (k := 0) bx_LookupError T.x_NoRoom fo_size T.n_NoRoom T.g_NoRoom rfl (hr.mono (by decide)) (takes_of rfl rfl rfl rfl) (de_var 1 (pv 1)) rfl))
  dss_nil)
  (dss_cons (ds_if (dt_not (dt_val (de_call (ok_is_index T) hG (hr.mono (by decide)) (takes_of rfl rfl rfl rfl) rfl T.m_is_index T.k_is_index (da_cons (de_var 2 (pv 2)) (da_cons (de_dget (Nat.lt_of_le_of_lt (Nat.add_le_add_left (by decide : 1 ≤ 65) _) (units65 hr)) (de_var 3 (pv 3)) (de_var 1 (pv 1)) (fun _ _ => rfl)) da_nil)))))
  (dss_one (ds_raise (k := 0) bx_IndexError T.x_InvalidNumber fo_value T.n_InvalidNumber T.g_InvalidNumber rfl (hr.mono (by decide)) (takes_of rfl rfl rfl rfl) (de_var 2 (pv 2)) rfl))
  dss_nil)
  (dss_cons (ds_par 4 5 rfl hN (da_cons (de_var 2 (pv 2)) (da_cons de_int da_nil)))
  (dss_one (ds_for (passes_of rfl) rfl (di_seq (ba := false) (de_sl T.n_Packing T.sc_Packing T.st_Packing (de_var 0 (pv 0)))) (dg_tup rfl (dgs_cons (dg_name 6 (pg_name hN rfl (by first | exact .inl rfl | exact .inr rfl))) (dgs_cons (dg_name 7 (pg_name hN rfl (by first | exact .inl rfl | exact .inr rfl))) (dgs_cons (dg_name 8 (pg_name hN rfl (by first | exact .inl rfl | exact .inr rfl))) dgs_nil))))
  (dss_cons (ds_set 9 hN (de_dget2 (Nat.lt_of_le_of_lt (Nat.add_le_add_left (by decide : 1 ≤ 65) _) (units65 hr)) (DF.de (ba := false) (df_callT (call_dictP rfl) link_dictP rfl T.z_dict bt_dict (da_cons (DE.up (DF.de (ba := false) (df_callT call_list_of link_list rfl T.z_list bt_list (da_cons (DE.up (de_var 8 (pv 8))) da_nil)))) da_nil))) (de_var 1 (pv 1)) de_int M2.of))
    (dss_cons (ds_if (dt_cmp op_ltD link_lt (nomark _) (de_var 4 (pv 4)) (de_mul (de_var 7 (pv 7)) (de_var 9 (pv 9))))
    (dss_one (ds_ret (de_add (de_var 5 (pv 5)) (de_div (de_var 4 (pv 4)) (de_var 9 (pv 9))))))
    dss_nil)
    (dss_one (ds_par 4 5 rfl hN (da_cons (de_sub (de_var 4 (pv 4)) (de_mul (de_var 7 (pv 7)) (de_var 9 (pv 9)))) (da_cons (de_add (de_var 5 (pv 5)) (de_var 7 (pv 7))) da_nil))))))))))))
abbrev N_law_dice : List Str := ["script", "spot", "cell", "left"]
theorem ok_law_dice (T : Txt K mg) : FnD P w K mg base 1 T.f_law_dice c_law_dice := by
  have sc : FnScope N_law_dice ["script", "spot"] (defScope s_law_dice) := ⟨rfl, rfl, rfl, by decide +kernel, rfl, by decide +kernel, by decide +kernel⟩
  have hN := sc.nd
  refine FnD.imp (fnD_of (m := b_law_dice) T.F_law_dice sc T.b_law_dice fun cdv A outer s H E hG hr => ?_) c_law_dice_ok
  exact (dss_cons (ds_set 2 hN (de_if (dt_cmp op_ltD link_lt (nomark _) (de_var 1 (pv 1)) (de_callB call_len link_len rfl T.z_len bt_len (da_cons (DE.up (de_var 0 (pv 0))) da_nil))) (de_callT call_int1 link_int rfl T.z_int bt_int (da_cons (DE.up (de_ix (fun _ _ => rfl) (de_var 0 (pv 0)) (de_var 1 (pv 1)))) da_nil)) (de_add (de_mul de_int (de_var 1 (pv 1))) de_int)))
  (dss_cons (ds_set 3 hN (de_mod (de_callB (call_max2 rfl) link_max2 rfl T.z_max bt_max (da_cons (DE.up de_int) (da_cons (DE.up (de_sub (de_callB call_abs link_abs rfl T.z_abs bt_abs (da_cons (DE.up (de_var 2 (pv 2))) da_nil)) (de_pow de_int de_int))) da_nil))) (de_mul (de_pow de_int de_int) (de_pow de_int de_int))))
  (dss_one (ds_ret (de_dice (df_lst (da_cons (de_var 3 (pv 3)) (da_cons (de_add (de_add (de_add (de_mul (de_mod (de_callB call_abs link_abs rfl T.z_abs bt_abs (da_cons (DE.up (de_var 2 (pv 2))) da_nil)) de_int) de_int) (de_mul de_int (de_var 1 (pv 1)))) (de_mul de_int (de_callT call_int1 link_int rfl T.z_int bt_int (da_cons (DE.up (de_cmp op_ltD link_lt (nomark _) (de_var 2 (pv 2)) de_int)) da_nil)))) de_int) (da_cons de_int da_nil)))))))))
abbrev N_law_filling_of : List Str := ["counts", "size"]
theorem ok_law_filling_of (T : Txt K mg) : FnD P w K mg base 1 T.f_law_filling_of c_law_filling_of := by
  have sc : FnScope N_law_filling_of ["counts"] (defScope s_law_filling_of) := ⟨rfl, rfl, rfl, by decide +kernel, rfl, by decide +kernel, by decide +kernel⟩
  have hN := sc.nd
  refine FnD.imp (fnD_of (m := b_law_filling_of) T.F_law_filling_of sc T.b_law_filling_of fun cdv A outer s H E hG hr => ?_) c_law_filling_of_ok
  exact (dss_one (ds_ret (de_callT call_tuple_of link_tuple rfl T.z_tuple bt_tuple (da_cons (DE.up (DF.de (ba := false) (df_comp (own := [("size", 1)]) rfl hN (di_seq (ba := true) (DE.up (DF.de (ba := false) (df_callB (call_sortedDI rfl) link_sortK rfl T.z_sorted bt_sorted (da_cons (DE.up (de_var 0 (pv 0))) da_nil))))) (blkOk_by (N := N_law_filling_of) (sc := defScope s_law_filling_of) (by decide +kernel)) (fun _ _ _ _ _ => (dgw_name 1 (pg_name hN rfl (by first | exact .inl rfl | exact .inr rfl)))) (fun _ _ _ _ _ => (dts_one (dt_cmp op_gtD link_gt (nomark _) (de_dget (Nat.lt_of_le_of_lt (Nat.add_le_add_left (by decide : 1 ≤ 65) _) (units65 hr)) (de_var 0 (pv 0)) (de_var 1 (pv 1)) (fun _ _ => rfl)) de_int))) (fun _ _ _ _ _ => (de_tup (da_cons (de_var 1 (pv 1)) (da_cons (de_dget (Nat.lt_of_le_of_lt (Nat.add_le_add_left (by decide : 1 ≤ 65) _) (units65 hr)) (de_var 0 (pv 0)) (de_var 1 (pv 1)) (fun _ _ => rfl)) da_nil))))))) da_nil))))
/-! the roll -/
theorem ok_law_roll (T : Txt K mg) : FnD P w K mg base 1 T.f_law_roll mRoll := by
  have sc : FnScope ["dice", "total", "found", "one", "two"] ["dice", "total"] (defScope s_law_roll) := ⟨rfl, rfl, rfl, by decide +kernel, rfl, by decide +kernel, by decide +kernel⟩
  have hN := sc.nd
  refine fnP_of T.F_law_roll sc (sb := spD K mRoll) (fun s us vs H Q E hK r h => ?_) fun cdv A outer s H vs Q E hG hr h => ?_
  · obtain ⟨fo, ds, PP, EK, ht, tb, rs, ⟨n, rfl, hm⟩, q⟩ := id h
    have e : us.length = 2 := by rw [← r.length, rs.length]; rfl
    have b := T.b_law_roll s us hK (by rw [List.append_nil]; exact e)
    rw [List.append_nil] at b
    exact ⟨vs, us, r, by rw [rs.length]; rfl, b, h⟩
  obtain ⟨fo, ds, PP, EK, ht, tb, rs, hm, hq, he⟩ := h
  obtain ⟨n, rfl, h0, h1, hroll⟩ := hm
  obtain ⟨a, rfl, hd⟩ : ∃ a, vs = [.ref a, .int n] ∧ H a = some (diceO a) := by
    cases rs with
    | cons r1 rs => cases rs with
      | cons r2 rs =>
        cases rs
        cases r2
        cases r1 with
        | dice h => exact ⟨_, rfl, sub_le _ _ h⟩
  refine ⟨_, pss_dice (pss_cons (ps_if (pt_cmpR op_gt (pe_ix ix_list (pv 0) pe_int (fun _ _ => rfl)) pe_int (nomark _))
      (pss_cons (ps_set (i := 2) hN rfl (.inl rfl) (pe_op op_mod (pe_callTy call_int1 rfl T.z_int bt_int (pa_cons (pe_ix ix_list (pv 0) pe_int (fun _ _ => rfl)) pa_nil)) (pv 1)))
      (pss_cons (ps_asg (pe_op op_fdiv (pe_ix ix_list (pv 0) pe_int (fun _ _ => rfl)) (pv 1)) (pg_sub (pv 0) pe_int set_list))
      (pss_one (ps_ret (pv 2))))) pss_nil)
    (pss_cons (ps_asg (pe_op op_add (pe_ix ix_list (pv 0) pe_int (fun _ _ => rfl)) pe_int) (pg_sub (pv 0) pe_int set_list))
    (pss_cons (ps_set (i := 3) hN rfl (.inl rfl) (pe_op op_mod (pe_callTy call_int1 rfl T.z_int bt_int (pa_cons (pe_op op_add (pe_ix ix_list (pv 0) pe_int (fun _ _ => rfl)) (pe_op op_mul pe_int (pe_ix ix_list (pv 0) pe_int (fun _ _ => rfl)))) pa_nil)) pe_int))
    (pss_cons (ps_set (i := 4) hN rfl (.inl rfl) (pe_op op_add (pe_op op_mul (pe_op op_mod (pe_callTy call_int1 rfl T.z_int bt_int (pa_cons (pe_op op_add (pe_op op_mul (pv 3) (pv 3)) (pe_op op_mul pe_int (pe_ix ix_list (pv 0) pe_int (fun _ _ => rfl)))) pa_nil)) pe_int) pe_int) (pv 3)))
    (pss_one (ps_ret (pe_op op_mod (pe_callTy call_int1 rfl T.z_int bt_int (pa_cons (pe_op op_fdiv (pv 4) pe_int) pa_nil)) (pv 1)))))))), ?_⟩
  refine ⟨a, hd, fun i j k => ?_⟩
  have back : ∀ (xs : List V) (b : Addr), upd (upd H a (.lst xs)) a (diceO a) b = H b := fun xs b => by
    by_cases e : b = a
    · rw [e, upd_same, hd]
    · rw [upd_ne e, upd_ne e]
  have fin : ∀ (r : Int) (H' : Hp) (xs : List V), H' = upd H a (.lst xs) → 0 ≤ r → r < n → Q (.int r) (upd H' a (diceO a)) := fun r H' xs e q0 q1 => by
    subst e
    exact hq (.int r) (.int r) _ (hroll r q0 q1) (Same.of fun b o z => by rw [back]; exact z) (.int r)
  have lx : ∀ {xs : List V} {H0 : Hp}, SqL K (upd H0 a (.lst xs)) a xs := fun {xs H0} => .of upd_same
  refine ⟨_, rfl, a, [.int i, .int j, .int k], 0, .int i, rfl, rfl, lx, rfl, i, 0, rfl, rfl, _, rfl, ?_⟩
  refine ite2 (fun hi => ?_) fun hi => ?_
  · refine ⟨_, rfl, a, _, 0, .int i, rfl, rfl, lx, rfl, .inl ⟨i, rfl, _, rfl, i, n, rfl, rfl, h0, ?_⟩⟩
    refine ⟨_, rfl, a, _, 0, .int i, rfl, rfl, lx, rfl, _, rfl, i, n, rfl, rfl, ⟨h0, h1⟩, _, rfl, a, _, 0, 0, rfl, rfl, upd_same, rfl, _, rfl, ?_⟩
    refine ⟨_, _, _, upd_same, fin _ _ _ upd_upd (Int.emod_nonneg _ (by omega)) (Int.emod_lt_of_pos _ h0)⟩
  · refine ⟨_, rfl, a, _, 2, .int k, rfl, rfl, lx, rfl, k, 1, rfl, rfl, _, rfl, a, _, 2, 2, rfl, rfl, upd_same, rfl, ?_⟩
    refine ⟨_, rfl, a, [.int i, .int j, .int (k + 1)], 1, .int j, rfl, rfl, lx, rfl, _, rfl, a, [.int i, .int j, .int (k + 1)], 2, .int (k + 1), rfl, rfl, lx, rfl, _, _, rfl, rfl, .inl ⟨by decide, by decide⟩, _, _, rfl, rfl, .inl ⟨_, rfl, _, _, rfl, rfl, (by show (0 : Int) < _; decide), ?_⟩⟩
    have b1 := Int.emod_nonneg (j + 67867967 * (k + 1)) (show (2305843009213693723 : Int) ≠ 0 by decide)
    have b2 := Int.emod_lt_of_pos (j + 67867967 * (k + 1)) (show (0 : Int) < 2305843009213693723 by decide)
    refine ⟨_, rfl, _, rfl, _, _, rfl, rfl, .inl ⟨by omega, by omega⟩, _, rfl, a, [.int i, .int j, .int (k + 1)], 2, .int (k + 1), rfl, rfl, lx, rfl, _, _, rfl, rfl, .inl ⟨by decide, by decide⟩, _, _, rfl, rfl, .inl ⟨_, rfl, _, _, rfl, rfl, (by show (0 : Int) < _; decide), ?_⟩⟩
    refine ⟨_, _, rfl, rfl, .inr ⟨by decide, by decide⟩, _, rfl, _, _, rfl, rfl, ?_⟩
    refine ⟨_, rfl, _, _, rfl, rfl, ⟨by decide, by decide⟩, .inl ⟨_, rfl, _, rfl, _, _, rfl, rfl, h0, ?_⟩⟩
    exact ⟨_, _, _, upd_same, fin _ _ _ upd_upd (Int.emod_nonneg _ (by omega)) (Int.emod_lt_of_pos _ h0)⟩
abbrev N_law_drawn_filling : List Str := ["dice", "sizes", "most", "counts", "size"]
theorem ok_law_drawn_filling (T : Txt K mg) : FnD P w K mg base 2 T.f_law_drawn_filling c_law_drawn_filling := by
  have sc : FnScope N_law_drawn_filling ["dice", "sizes", "most"] (defScope s_law_drawn_filling) := ⟨rfl, rfl, rfl, by decide +kernel, rfl, by decide +kernel, by decide +kernel⟩
  have hN := sc.nd
  refine FnD.imp (fnD_of (m := b_law_drawn_filling) T.F_law_drawn_filling sc T.b_law_drawn_filling fun cdv A outer s H E hG hr => ?_) c_law_drawn_filling_ok
  exact (dss_cons (ds_set 3 hN (DF.de (ba := false) (df_callT (call_dictP rfl) link_dictP rfl T.z_dict bt_dict (da_cons (DE.up (DF.de (ba := false) (df_comp (own := [("size", 4)]) rfl hN (di_seq (ba := true) (DE.up (de_var 1 (pv 1)))) (blkOk_by (N := N_law_drawn_filling) (sc := defScope s_law_drawn_filling) (by decide +kernel)) (fun _ _ _ _ _ => (dgw_name 4 (pg_name hN rfl (by first | exact .inl rfl | exact .inr rfl)))) (fun _ _ _ _ _ => dts_nil) (fun _ _ _ _ _ => (de_tup (da_cons (de_var 4 (pv 4)) (da_cons (de_callB (call_max2 rfl) link_max2 rfl T.z_max bt_max (da_cons (DE.up de_int) (da_cons (DE.up (de_sub (de_call (ok_law_roll T) hG (hr.mono (by decide)) takes0 rfl T.m_law_roll T.k_law_roll (da_cons (de_var 0 (pv 0)) (da_cons (de_add (de_var 2 (pv 2)) de_int) da_nil))) de_int)) da_nil))) da_nil))))))) da_nil))))
  (dss_one (ds_ret (de_call (ok_law_filling_of T) hG (hr.mono (by decide)) (takes_of rfl rfl rfl rfl) rfl T.m_law_filling_of T.k_law_filling_of (da_cons (de_var 3 (pv 3)) da_nil)))))
abbrev N_law_load : List Str := ["filling", "size", "count"]
theorem ok_law_load (T : Txt K mg) : FnD P w K mg base 1 T.f_law_load c_law_load := by
  have sc : FnScope N_law_load ["filling"] (defScope s_law_load) := ⟨rfl, rfl, rfl, by decide +kernel, rfl, by decide +kernel, by decide +kernel⟩
  have hN := sc.nd
  refine FnD.imp (fnD_of (m := b_law_load) T.F_law_load sc T.b_law_load fun cdv A outer s H E hG hr => ?_) c_law_load_ok
  exact (dss_one (ds_ret (de_callB (cr_sum rfl) link_sum rfl T.z_sum bt_sum (da_cons (DE.up (DF.de (ba := false) (df_comp (own := [("size", 1), ("count", 2)]) rfl hN (di_seq (ba := true) (DE.up (de_var 0 (pv 0)))) (blkOk_by (N := N_law_load) (sc := defScope s_law_load) (by decide +kernel)) (fun _ _ _ _ _ => (dgw_tup rfl (dgws_cons (dgw_name 1 (pg_name hN rfl (by first | exact .inl rfl | exact .inr rfl))) (dgws_cons (dgw_name 2 (pg_name hN rfl (by first | exact .inl rfl | exact .inr rfl))) dgws_nil)))) (fun _ _ _ _ _ => dts_nil) (fun _ _ _ _ _ => (de_mul (de_var 1 (pv 1)) (de_var 2 (pv 2))))))) da_nil))))
abbrev N_law_pick : List Str := ["dice", "items"]
theorem ok_law_pick (T : Txt K mg) : FnD P w K mg base 2 T.f_law_pick c_law_pick := by
  have sc : FnScope N_law_pick ["dice", "items"] (defScope s_law_pick) := ⟨rfl, rfl, rfl, by decide +kernel, rfl, by decide +kernel, by decide +kernel⟩
  have hN := sc.nd
  refine FnD.imp (fnD_of (m := b_law_pick) T.F_law_pick sc T.b_law_pick fun cdv A outer s H E hG hr => ?_) c_law_pick_ok
  exact (dss_one (ds_ret (de_ix (fun _ _ => rfl) (de_var 1 (pv 1)) (de_call (ok_law_roll T) hG (hr.mono (by decide)) (takes_of rfl rfl rfl rfl) rfl T.m_law_roll T.k_law_roll (da_cons (de_var 0 (pv 0)) (da_cons (de_callB call_len link_len rfl T.z_len bt_len (da_cons (DE.up (de_var 1 (pv 1))) da_nil)) da_nil))))))
abbrev N_law_drawn_runs : List Str := ["dice", "sizes", "many", "greatest", "found", "turn", "filling", "room", "run"]
theorem ok_law_drawn_runs (T : Txt K mg) : FnD P w K mg base 3 T.f_law_drawn_runs c_law_drawn_runs := by
  have sc : FnScope N_law_drawn_runs ["dice", "sizes", "many", "greatest"] (defScope s_law_drawn_runs) := ⟨rfl, rfl, rfl, by decide +kernel, rfl, by decide +kernel, by decide +kernel⟩
  have hN := sc.nd
  refine FnD.imp (fnD_of (m := b_law_drawn_runs) T.F_law_drawn_runs sc T.b_law_drawn_runs fun cdv A outer s H E hG hr => ?_) c_law_drawn_runs_ok
  exact (dss_cons (ds_setm 4 hN (df_lst da_nil))
  (dss_cons (ds_for (passes_of rfl) rfl (di_range1 (ba := false) rfl T.z_range (da_cons (DE.up (de_call (ok_law_roll T) hG (hr.mono (by decide)) (takes_of rfl rfl rfl rfl) rfl T.m_law_roll T.k_law_roll (da_cons (de_var 0 (pv 0)) (da_cons (de_add (de_var 2 (pv 2)) de_int) da_nil)))) da_nil)) (dg_name 5 (pg_name hN rfl (by first | exact .inl rfl | exact .inr rfl)))
  (dss_cons (ds_set 6 hN (de_call (ok_law_drawn_filling T) hG (hr.mono (by decide)) (takes_of rfl rfl rfl rfl) rfl T.m_law_drawn_filling T.k_law_drawn_filling (da_cons (de_var 0 (pv 0)) (da_cons (de_var 1 (pv 1)) (da_cons de_int da_nil)))))
    (dss_cons (ds_set 7 hN (de_add (de_call (ok_law_load T) hG (hr.mono (by decide)) (takes_of rfl rfl rfl rfl) rfl T.m_law_load T.k_law_load (da_cons (de_var 6 (pv 6)) da_nil)) (de_call (ok_law_pick T) hG (hr.mono (by decide)) (takes_of rfl rfl rfl rfl) rfl T.m_law_pick T.k_law_pick (da_cons (de_var 0 (pv 0)) (da_cons (DF.de (ba := false) (df_lst (da_cons de_int (da_cons de_int (da_cons de_int (da_cons de_int (da_cons de_int da_nil))))))) da_nil)))))
    (dss_cons (ds_set 8 hN (de_tup (da_cons (de_callB (call_max2 rfl) link_max2 rfl T.z_max bt_max (da_cons (DE.up de_int) (da_cons (DE.up (de_var 7 (pv 7))) da_nil))) (da_cons (de_add de_int (de_call (ok_law_roll T) hG (hr.mono (by decide)) (takes_of rfl rfl rfl rfl) rfl T.m_law_roll T.k_law_roll (da_cons (de_var 0 (pv 0)) (da_cons (de_var 3 (pv 3)) da_nil)))) (da_cons (de_var 6 (pv 6)) da_nil)))))
    (dss_cons (ds_app 4 (pv 4) (de_var 8 (pv 8)))
    (dss_one (ds_if (dt_cmp (op_eqD hr.units) link_eq (nomark _) (de_call (ok_law_roll T) hG (hr.mono (by decide)) (takes_of rfl rfl rfl rfl) rfl T.m_law_roll T.k_law_roll (da_cons (de_var 0 (pv 0)) (da_cons de_int da_nil))) de_int)
    (dss_one (ds_app 4 (pv 4) (de_tup (da_cons (de_ix (fun _ _ => rfl) (de_var 8 (pv 8)) de_int) (da_cons (de_add de_int (de_call (ok_law_roll T) hG (hr.mono (by decide)) (takes_of rfl rfl rfl rfl) rfl T.m_law_roll T.k_law_roll (da_cons (de_var 0 (pv 0)) (da_cons (de_var 3 (pv 3)) da_nil)))) (da_cons (de_var 6 (pv 6)) da_nil))))))
    dss_nil)))))))
  (dss_frz 4 (dss_one (ds_ret (de_var 4 (pv 4)))))))
abbrev N_Packing_joined : List Str := ["self", "other"]
theorem ok_Packing_joined (T : Txt K mg) : FnD P w K mg base 7 T.f_Packing_joined c_Packing_joined := by
  have sc : FnScope N_Packing_joined ["self", "other"] (defScope s_Packing_joined) := ⟨rfl, rfl, rfl, by decide +kernel, rfl, by decide +kernel, by decide +kernel⟩
  have hN := sc.nd
  refine FnD.imp (fnD_of (m := b_Packing_joined) T.F_Packing_joined sc T.b_Packing_joined fun cdv A outer s H E hG hr => ?_) c_Packing_joined_ok
  exact (dss_cons (ds_if (dt_not (dt_val (de_isiX T.n_Packing T.g_Packing rfl (by decide) T.ki_Packing T.ksl (by decide) rfl T.z_isinstance (de_var 1 (pv 1)))))
  (dss_one (ds_raise0 PySem.F.excBase_ValueError T.xi_InvalidPacking T.n_InvalidPacking T.g_InvalidPacking T.kp_InvalidPacking T.sb_InvalidPacking T.ty_InvalidPacking rfl (takes_of rfl rfl rfl rfl) rfl))
  dss_nil)
  (dss_one (ds_ret (de_makeI2 T.n_Packing T.mk_Packing (ok_Packing_init T) hG (hr.mono (by decide)) (takes_of rfl rfl rfl rfl) rfl T.g_Packing (da_star (de_sl T.n_Packing T.sc_Packing T.st_Packing (de_var 0 (pv 0))) (da_star (de_sl T.n_Packing T.sc_Packing T.st_Packing (de_var 1 (pv 1))) da_nil))))))
abbrev N_law_made_packing : List Str := ["runs", "found", "run"]
theorem ok_law_made_packing (T : Txt K mg) : FnD P w K mg base 8 T.f_law_made_packing c_law_made_packing := by
  have sc : FnScope N_law_made_packing ["runs"] (defScope s_law_made_packing) := ⟨rfl, rfl, rfl, by decide +kernel, rfl, by decide +kernel, by decide +kernel⟩
  have hN := sc.nd
  refine FnD.imp (fnD_of (m := b_law_made_packing) T.F_law_made_packing sc T.b_law_made_packing fun cdv A outer s H E hG hr => ?_) c_law_made_packing_ok
  exact (dss_cons (ds_set 1 hN (de_makeI0 T.n_Packing T.mk_Packing (ok_Packing_init T) hG (hr.mono (by decide)) (takes_of rfl rfl rfl rfl) rfl T.g_Packing))
  (dss_cons (ds_for (passes_of rfl) rfl (di_seq (ba := false) (de_var 0 (pv 0))) (dg_name 2 (pg_name hN rfl (by first | exact .inl rfl | exact .inr rfl)))
  (dss_one (ds_set 1 hN (de_methS T.n_Packing T.sc_Packing (ok_Packing_joined T) T.me_Packing_joined hG (hr.mono (by decide)) (takes_of rfl rfl rfl rfl) (de_var 1 (pv 1)) rfl (da_cons (de_makeI T.n_Packing T.mk_Packing (ok_Packing_init T) hG (hr.mono (by decide)) (takes_of rfl rfl rfl rfl) rfl T.g_Packing (da_cons (de_var 2 (pv 2)) da_nil)) da_nil)))))
  (dss_one (ds_ret (de_var 1 (pv 1))))))
abbrev N_law_single : List Str := ["runs", "found", "room", "number", "filling"]
theorem ok_law_single (T : Txt K mg) : FnD P w K mg base 1 T.f_law_single c_law_single := by
  have sc : FnScope N_law_single ["runs"] (defScope s_law_single) := ⟨rfl, rfl, rfl, by decide +kernel, rfl, by decide +kernel, by decide +kernel⟩
  have hN := sc.nd
  refine FnD.imp (fnD_of (m := b_law_single) T.F_law_single sc T.b_law_single fun cdv A outer s H E hG hr => ?_) c_law_single_ok
  exact (dss_cons (ds_setm 1 hN (df_lst da_nil))
  (dss_cons (ds_for (passes_of rfl) rfl (di_seq (ba := false) (de_var 0 (pv 0))) (dg_tup rfl (dgs_cons (dg_name 2 (pg_name hN rfl (by first | exact .inl rfl | exact .inr rfl))) (dgs_cons (dg_name 3 (pg_name hN rfl (by first | exact .inl rfl | exact .inr rfl))) (dgs_cons (dg_name 4 (pg_name hN rfl (by first | exact .inl rfl | exact .inr rfl))) dgs_nil))))
  (dss_one (ds_ext 1 (pv 1) (DF.de (ba := false) (df_rep (DF.de (ba := false) (df_lst (da_cons (de_tup (da_cons (de_var 2 (pv 2)) (da_cons (de_var 4 (pv 4)) da_nil))) da_nil))) (de_var 3 (pv 3)))))))
  (dss_frz 1 (dss_one (ds_ret (de_var 1 (pv 1)))))))
abbrev N_law_chain : List Str := ["dice", "many", "start", "found", "turn"]
theorem ok_law_chain (T : Txt K mg) : FnD P w K mg base 2 T.f_law_chain c_law_chain := by
  have sc : FnScope N_law_chain ["dice", "many", "start"] (defScope s_law_chain) := ⟨rfl, rfl, rfl, by decide +kernel, rfl, by decide +kernel, by decide +kernel⟩
  have hN := sc.nd
  refine FnD.imp (fnD_of (m := b_law_chain) T.F_law_chain sc T.b_law_chain fun cdv A outer s H E hG hr => ?_) c_law_chain_ok
  exact (dss_cons (ds_setm 3 hN (df_lst (da_cons (de_add de_int (de_call (ok_law_roll T) hG (hr.mono (by decide)) (takes_of rfl rfl rfl rfl) rfl T.m_law_roll T.k_law_roll (da_cons (de_var 0 (pv 0)) (da_cons (de_var 2 (pv 2)) da_nil)))) da_nil)))
  (dss_cons (ds_for (passes_of rfl) rfl (di_range1 (ba := false) rfl T.z_range (da_cons (DE.up (de_call (ok_law_roll T) hG (hr.mono (by decide)) (takes_of rfl rfl rfl rfl) rfl T.m_law_roll T.k_law_roll (da_cons (de_var 0 (pv 0)) (da_cons (de_var 1 (pv 1)) da_nil)))) da_nil)) (dg_name 4 (pg_name hN rfl (by first | exact .inl rfl | exact .inr rfl)))
  (dss_one (ds_app 3 (pv 3) (de_mul (de_ix (fun _ _ => rfl) (de_mut 3 (pv 3)) (de_neg de_int)) (de_add de_int (de_call (ok_law_roll T) hG (hr.mono (by decide)) (takes_of rfl rfl rfl rfl) rfl T.m_law_roll T.k_law_roll (da_cons (de_var 0 (pv 0)) (da_cons de_int da_nil))))))))
  (dss_frz 3 (dss_one (ds_ret (de_callT call_tuple_of link_tuple rfl T.z_tuple bt_tuple (da_cons (DE.up (de_var 3 (pv 3))) da_nil)))))))
abbrev N_law_sizes_any : List Str := ["dice", "many", "turn"]
theorem ok_law_sizes_any (T : Txt K mg) : FnD P w K mg base 3 T.f_law_sizes_any c_law_sizes_any := by
  have sc : FnScope N_law_sizes_any ["dice", "many"] (defScope s_law_sizes_any) := ⟨rfl, rfl, rfl, by decide +kernel, rfl, by decide +kernel, by decide +kernel⟩
  have hN := sc.nd
  refine FnD.imp (fnD_of (m := b_law_sizes_any) T.F_law_sizes_any sc T.b_law_sizes_any fun cdv A outer s H E hG hr => ?_) c_law_sizes_any_ok
  exact (dss_cons (ds_if (dt_cmp (op_eqD hr.units) link_eq (nomark _) (de_call (ok_law_roll T) hG (hr.mono (by decide)) (takes_of rfl rfl rfl rfl) rfl T.m_law_roll T.k_law_roll (da_cons (de_var 0 (pv 0)) (da_cons de_int da_nil))) de_int)
  (dss_one (ds_ret (DF.de (ba := false) (df_callT call_list_of link_list rfl T.z_list bt_list (da_cons (DE.up (de_call (ok_law_chain T) hG (hr.mono (by decide)) (takes_of rfl rfl rfl rfl) rfl T.m_law_chain T.k_law_chain (da_cons (de_var 0 (pv 0)) (da_cons (de_var 1 (pv 1)) (da_cons de_int da_nil))))) da_nil)))))
  dss_nil)
  (dss_one (ds_ret (DF.de (ba := false) (df_sortSet rfl rfl T.z_sorted bt_sorted rfl T.z_set bt_set (da_cons (DE.up (DF.de (ba := false) (df_comp (own := [("turn", 2)]) rfl hN (di_range1 (ba := true) rfl T.z_range (da_cons (DE.up (de_var 1 (pv 1))) da_nil)) (blkOk_by (N := N_law_sizes_any) (sc := defScope s_law_sizes_any) (by decide +kernel)) (fun _ _ _ _ _ => (dgw_name 2 (pg_name hN rfl (by first | exact .inl rfl | exact .inr rfl)))) (fun _ _ _ _ _ => dts_nil) (fun _ _ _ _ _ => (de_add de_int (de_call (ok_law_roll T) hG (hr.mono (by decide)) takes0 rfl T.m_law_roll T.k_law_roll (da_cons (de_var 0 (pv 0)) (da_cons de_int da_nil)))))))) da_nil))))))
abbrev N_law_things_of : List Str := ["runs", "found", "room", "number", "filling", "size", "count"]
theorem ok_law_things_of (T : Txt K mg) : FnD P w K mg base 1 T.f_law_things_of c_law_things_of := by
  have sc : FnScope N_law_things_of ["runs"] (defScope s_law_things_of) := ⟨rfl, rfl, rfl, by decide +kernel, rfl, by decide +kernel, by decide +kernel⟩
  have hN := sc.nd
  refine FnD.imp (fnD_of (m := b_law_things_of) T.F_law_things_of sc T.b_law_things_of fun cdv A outer s H E hG hr => ?_) c_law_things_of_ok
  exact (dss_cons (ds_setm 1 hN df_dnew)
  (dss_cons (ds_for (passes_of rfl) rfl (di_seq (ba := false) (de_var 0 (pv 0))) (dg_tup rfl (dgs_cons (dg_name 2 (pg_name hN rfl (by first | exact .inl rfl | exact .inr rfl))) (dgs_cons (dg_name 3 (pg_name hN rfl (by first | exact .inl rfl | exact .inr rfl))) (dgs_cons (dg_name 4 (pg_name hN rfl (by first | exact .inl rfl | exact .inr rfl))) dgs_nil))))
  (dss_one (ds_for (passes_of rfl) rfl (di_seq (ba := false) (de_var 4 (pv 4))) (dg_tup rfl (dgs_cons (dg_name 5 (pg_name hN rfl (by first | exact .inl rfl | exact .inr rfl))) (dgs_cons (dg_name 6 (pg_name hN rfl (by first | exact .inl rfl | exact .inr rfl))) dgs_nil)))
    (dss_one (ds_put 1 (Nat.lt_of_le_of_lt (Nat.add_le_add_left (by decide : 1 ≤ 65) _) (units65 hr)) (pv 1) (de_var 5 (pv 5)) (de_add (de_dget2 (Nat.lt_of_le_of_lt (Nat.add_le_add_left (by decide : 1 ≤ 65) _) (units65 hr)) (de_mut 1 (pv 1)) (de_var 5 (pv 5)) de_int M2.of) (de_mul (de_var 3 (pv 3)) (de_var 6 (pv 6)))))))))
  (dss_frz 1 (dss_one (ds_ret (de_var 1 (pv 1)))))))
abbrev N_law_few_right : List Str := ["dice", "sizes", "runs", "packing", "rooms", "size", "due", "at", "room", "filling", "index"]
theorem ok_law_few_right (T : Txt K mg) : FnD P w K mg base 9 T.f_law_few_right c_law_few_right := by
  have sc : FnScope N_law_few_right ["dice"] (defScope s_law_few_right) := ⟨rfl, rfl, rfl, by decide +kernel, rfl, by decide +kernel, by decide +kernel⟩
  have hN := sc.nd
  refine FnD.imp (fnD_of (m := b_law_few_right) T.F_law_few_right sc T.b_law_few_right fun cdv A outer s H E hG hr => ?_) c_law_few_right_ok
  exact (dss_cons (ds_set 1 hN (de_call (ok_law_sizes_any T) hG (hr.mono (by decide)) (takes_of rfl rfl rfl rfl) rfl T.m_law_sizes_any T.k_law_sizes_any (da_cons (de_var 0 (pv 0)) (da_cons de_int da_nil))))
  (dss_cons (ds_set 2 hN (de_call (ok_law_drawn_runs T) hG (hr.mono (by decide)) (takes_of rfl rfl rfl rfl) rfl T.m_law_drawn_runs T.k_law_drawn_runs (da_cons (de_var 0 (pv 0)) (da_cons (de_var 1 (pv 1)) (da_cons de_int (da_cons de_int da_nil))))))
  (dss_cons (ds_asg (de_tup (da_cons (de_call (ok_law_made_packing T) hG (hr.mono (by decide)) (takes_of rfl rfl rfl rfl) rfl T.m_law_made_packing T.k_law_made_packing (da_cons (de_var 2 (pv 2)) da_nil)) (da_cons (de_call (ok_law_single T) hG (hr.mono (by decide)) (takes_of rfl rfl rfl rfl) rfl T.m_law_single T.k_law_single (da_cons (de_var 2 (pv 2)) da_nil)) da_nil))) (dg_tup rfl (dgs_cons (dg_name 3 (pg_name hN rfl (by first | exact .inl rfl | exact .inr rfl))) (dgs_cons (dg_name 4 (pg_name hN rfl (by first | exact .inl rfl | exact .inr rfl))) dgs_nil))))
  (dss_cons (ds_for (passes_of rfl) rfl (di_keys (ba := false) (de_call (ok_law_things_of T) hG (hr.mono (by decide)) (takes_of rfl rfl rfl rfl) rfl T.m_law_things_of T.k_law_things_of (da_cons (de_var 2 (pv 2)) da_nil))) (dg_name 5 (pg_name hN rfl (by first | exact .inl rfl | exact .inr rfl)))
  (dss_cons (ds_setm 6 hN (df_lst da_nil))
    (dss_cons (ds_for (passes_of rfl) rfl (di_enumL (ba := false) rfl T.z_enumerate (da_cons (de_var 4 (pv 4)) da_nil)) (dg_tup rfl (dgs_cons (dg_name 7 (pg_name hN rfl (by first | exact .inl rfl | exact .inr rfl))) (dgs_cons (dg_tup rfl (dgs_cons (dg_name 8 (pg_name hN rfl (by first | exact .inl rfl | exact .inr rfl))) (dgs_cons (dg_name 9 (pg_name hN rfl (by first | exact .inl rfl | exact .inr rfl))) dgs_nil))) dgs_nil)))
    (dss_one (ds_ext 6 (pv 6) (DF.de (ba := false) (df_rep (DF.de (ba := false) (df_lst (da_cons (de_var 7 (pv 7)) da_nil))) (de_dget2 (Nat.lt_of_le_of_lt (Nat.add_le_add_left (by decide : 1 ≤ 65) _) (units65 hr)) (DF.de (ba := false) (df_callT (call_dictP rfl) link_dictP rfl T.z_dict bt_dict (da_cons (DE.up (DF.de (ba := false) (df_callT call_list_of link_list rfl T.z_list bt_list (da_cons (DE.up (de_var 9 (pv 9))) da_nil)))) da_nil))) (de_var 5 (pv 5)) de_int M2.of))))))
    (dss_frz 6 (dss_one (ds_if (dt_cmp (op_neD hr.units) link_ne (nomark _) (DF.de (ba := false) (df_comp (own := [("index", 10)]) rfl hN (di_range1 (ba := true) rfl T.z_range (da_cons (DE.up (de_callB call_len link_len rfl T.z_len bt_len (da_cons (DE.up (de_var 6 (pv 6))) da_nil))) da_nil)) (blkOk_by (N := N_law_few_right) (sc := defScope s_law_few_right) (by decide +kernel)) (fun _ _ _ _ _ => (dgw_name 10 (pg_name hN rfl (by first | exact .inl rfl | exact .inr rfl)))) (fun _ _ _ _ _ => dts_nil) (fun _ _ _ _ _ => (de_methS T.n_Packing T.sc_Packing (ok_Packing_spot_of T) T.me_Packing_spot_of hG (hr.mono (by decide)) takes0 (de_var 3 (pv 3)) rfl (da_cons (de_var 5 (pv 5)) (da_cons (de_var 10 (pv 10)) da_nil)))))) (de_var 6 (pv 6)))
    (dss_one (ds_ret de_bool))
    dss_nil))))))
  (dss_one (ds_ret de_bool))))))
abbrev N_Packing_number : List Str := ["self", "room", "many", "filling"]
theorem ok_Packing_number (T : Txt K mg) : FnD P w K mg base 1 T.f_Packing_number c_Packing_number := by
  have sc : FnScope N_Packing_number ["self"] (defScope s_Packing_number) := ⟨rfl, rfl, rfl, by decide +kernel, rfl, by decide +kernel, by decide +kernel⟩
  have hN := sc.nd
  refine FnD.imp (fnD_of (m := b_Packing_number) T.F_Packing_number sc T.b_Packing_number fun cdv A outer s H E hG hr => ?_) c_Packing_number_ok
  exact (dss_one (ds_ret (de_callB (cr_sum rfl) link_sum rfl T.z_sum bt_sum (da_cons (DE.up (DF.de (ba := false) (df_comp (own := [("room", 1), ("many", 2), ("filling", 3)]) rfl hN (di_seq (ba := true) (DE.up (de_sl T.n_Packing T.sc_Packing T.st_Packing (de_var 0 (pv 0))))) (blkOk_by (N := N_Packing_number) (sc := defScope s_Packing_number) (by decide +kernel)) (fun _ _ _ _ _ => (dgw_tup rfl (dgws_cons (dgw_name 1 (pg_name hN rfl (by first | exact .inl rfl | exact .inr rfl))) (dgws_cons (dgw_name 2 (pg_name hN rfl (by first | exact .inl rfl | exact .inr rfl))) (dgws_cons (dgw_name 3 (pg_name hN rfl (by first | exact .inl rfl | exact .inr rfl))) dgws_nil))))) (fun _ _ _ _ _ => dts_nil) (fun _ _ _ _ _ => (de_var 2 (pv 2)))))) da_nil))))
abbrev N_Packing_run_at : List Str := ["self", "index", "rest", "room", "many", "filling"]
theorem ok_Packing_run_at (T : Txt K mg) : FnD P w K mg base 4 T.f_Packing_run_at c_Packing_run_at := by
  have sc : FnScope N_Packing_run_at ["self", "index"] (defScope s_Packing_run_at) := ⟨rfl, rfl, rfl, by decide +kernel, rfl, by decide +kernel, by decide +kernel⟩
  have hN := sc.nd
  refine FnD.imp (fnD_of (m := b_Packing_run_at) T.F_Packing_run_at sc T.b_Packing_run_at fun cdv A outer s H E hG hr => ?_) c_Packing_run_at_ok
  exact (dss_cons (ds_if (dt_not (dt_val (de_call (ok_is_index T) hG (hr.mono (by decide)) (takes_of rfl rfl rfl rfl) rfl T.m_is_index T.k_is_index (da_cons (de_var 1 (pv 1)) (da_cons (de_propS T.n_Packing T.sc_Packing T.pr_Packing_number (ok_Packing_number T) hG (hr.mono (by decide)) (de_var 0 (pv 0)) rfl) da_nil)))))
  (dss_one (ds_raise (k := 0) bx_IndexError T.x_InvalidNumber fo_value T.n_InvalidNumber T.g_InvalidNumber rfl (hr.mono (by decide)) (takes_of rfl rfl rfl rfl) (de_var 1 (pv 1)) rfl))
  dss_nil)
  (dss_cons (ds_set 2 hN (de_var 1 (pv 1)))
  (dss_one (ds_for (passes_of rfl) rfl (di_seq (ba := false) (de_sl T.n_Packing T.sc_Packing T.st_Packing (de_var 0 (pv 0)))) (dg_tup rfl (dgs_cons (dg_name 3 (pg_name hN rfl (by first | exact .inl rfl | exact .inr rfl))) (dgs_cons (dg_name 4 (pg_name hN rfl (by first | exact .inl rfl | exact .inr rfl))) (dgs_cons (dg_name 5 (pg_name hN rfl (by first | exact .inl rfl | exact .inr rfl))) dgs_nil))))
  (dss_cons (ds_if (dt_cmp op_ltD link_lt (nomark _) (de_var 2 (pv 2)) (de_var 4 (pv 4)))
    (dss_one (ds_ret (de_tup (da_cons (de_var 3 (pv 3)) (da_cons (de_var 4 (pv 4)) (da_cons (de_var 5 (pv 5)) da_nil))))))
    dss_nil)
    (dss_one (ds_aug 2 hN ip_sub (de_var 4 (pv 4)))))))))
abbrev N_Packing_room_at : List Str := ["self", "index", "room", "many", "filling"]
theorem ok_Packing_room_at (T : Txt K mg) : FnD P w K mg base 5 T.f_Packing_room_at c_Packing_room_at := by
  have sc : FnScope N_Packing_room_at ["self", "index"] (defScope s_Packing_room_at) := ⟨rfl, rfl, rfl, by decide +kernel, rfl, by decide +kernel, by decide +kernel⟩
  have hN := sc.nd
  refine FnD.imp (fnD_of (m := b_Packing_room_at) T.F_Packing_room_at sc T.b_Packing_room_at fun cdv A outer s H E hG hr => ?_) c_Packing_room_at_ok
  exact (dss_cons (ds_asg (de_methS T.n_Packing T.sc_Packing (ok_Packing_run_at T) T.me_Packing_run_at hG (hr.mono (by decide)) (takes_of rfl rfl rfl rfl) (de_var 0 (pv 0)) rfl (da_cons (de_var 1 (pv 1)) da_nil)) (dg_tup rfl (dgs_cons (dg_name 2 (pg_name hN rfl (by first | exact .inl rfl | exact .inr rfl))) (dgs_cons (dg_name 3 (pg_name hN rfl (by first | exact .inl rfl | exact .inr rfl))) (dgs_cons (dg_name 4 (pg_name hN rfl (by first | exact .inl rfl | exact .inr rfl))) dgs_nil)))))
  (dss_one (ds_ret (de_tup (da_cons (de_var 2 (pv 2)) (da_cons (de_var 4 (pv 4)) da_nil))))))
abbrev N_law_great_right : List Str := ["dice", "runs", "room", "number", "filling", "packing", "size", "total", "index", "spot", "ahead", "left", "some", "here"]
theorem ok_law_great_right (T : Txt K mg) : FnD P w K mg base 9 T.f_law_great_right c_law_great_right := by
  have sc : FnScope N_law_great_right ["dice"] (defScope s_law_great_right) := ⟨rfl, rfl, rfl, by decide +kernel, rfl, by decide +kernel, by decide +kernel⟩
  have hN := sc.nd
  refine FnD.imp (fnD_of (m := b_law_great_right) T.F_law_great_right sc T.b_law_great_right fun cdv A outer s H E hG hr => ?_) c_law_great_right_ok
  exact (dss_cons (ds_setLc 1 (y := "runs") (own := [("room", 2), ("number", 3), ("filling", 4)]) rfl hN (di_seq (ba := true) (DE.up (de_call (ok_law_drawn_runs T) hG (hr.mono (by decide)) (takes_of rfl rfl rfl rfl) rfl T.m_law_drawn_runs T.k_law_drawn_runs (da_cons (de_var 0 (pv 0)) (da_cons (DF.de (ba := false) (df_lst (da_cons de_int (da_cons de_int (da_cons de_int da_nil))))) (da_cons de_int (da_cons de_int da_nil))))))) (blkOk_by (N := N_law_great_right) (sc := defScope s_law_great_right) (by decide +kernel)) (fun _ _ _ _ _ => (dgw_tup rfl (dgws_cons (dgw_name 2 (pg_name hN rfl (by first | exact .inl rfl | exact .inr rfl))) (dgws_cons (dgw_name 3 (pg_name hN rfl (by first | exact .inl rfl | exact .inr rfl))) (dgws_cons (dgw_name 4 (pg_name hN rfl (by first | exact .inl rfl | exact .inr rfl))) dgws_nil))))) (fun _ _ _ _ _ => dts_nil) (fun _ _ _ _ _ => (de_tup (da_cons (de_var 2 (pv 2)) (da_cons (de_add (de_mul (de_var 3 (pv 3)) (de_pow de_int de_int)) de_int) (da_cons (de_var 4 (pv 4)) da_nil))))))
  (dss_cons (ds_set 5 hN (de_call (ok_law_made_packing T) hG (hr.mono (by decide)) (takes_of rfl rfl rfl rfl) rfl T.m_law_made_packing T.k_law_made_packing (da_cons (de_var 1 (pv 1)) da_nil)))
  (dss_cons (ds_for (passes_of rfl) rfl (di_keys (ba := false) (de_call (ok_law_things_of T) hG (hr.mono (by decide)) (takes_of rfl rfl rfl rfl) rfl T.m_law_things_of T.k_law_things_of (da_cons (de_var 1 (pv 1)) da_nil))) (dg_name 6 (pg_name hN rfl (by first | exact .inl rfl | exact .inr rfl)))
  (dss_cons (ds_set 7 hN (de_dget (Nat.lt_of_le_of_lt (Nat.add_le_add_left (by decide : 1 ≤ 65) _) (units65 hr)) (de_call (ok_law_things_of T) hG (hr.mono (by decide)) (takes_of rfl rfl rfl rfl) rfl T.m_law_things_of T.k_law_things_of (da_cons (de_var 1 (pv 1)) da_nil)) (de_var 6 (pv 6)) (fun _ _ => rfl)))
    (dss_one (ds_for (passes_of rfl) rfl (di_seq (ba := false) (DF.de (ba := false) (df_lst (da_cons de_int (da_cons (de_sub (de_var 7 (pv 7)) de_int) (da_cons (de_div (de_var 7 (pv 7)) de_int) (da_cons (de_add (de_div (de_var 7 (pv 7)) de_int) (de_mod (de_call (ok_law_roll T) hG (hr.mono (by decide)) (takes_of rfl rfl rfl rfl) rfl T.m_law_roll T.k_law_roll (da_cons (de_var 0 (pv 0)) (da_cons (de_pow de_int de_int) da_nil))) (de_callB (call_max2 rfl) link_max2 rfl T.z_max bt_max (da_cons (DE.up de_int) (da_cons (DE.up (de_div (de_var 7 (pv 7)) de_int)) da_nil))))) da_nil))))))) (dg_name 8 (pg_name hN rfl (by first | exact .inl rfl | exact .inr rfl)))
    (dss_cons (ds_par3 9 10 11 rfl hN (da_cons (de_methS T.n_Packing T.sc_Packing (ok_Packing_spot_of T) T.me_Packing_spot_of hG (hr.mono (by decide)) (takes_of rfl rfl rfl rfl) (de_var 5 (pv 5)) rfl (da_cons (de_var 6 (pv 6)) (da_cons (de_var 8 (pv 8)) da_nil))) (da_cons de_int (da_cons de_int da_nil))))
      (dss_cons (ds_for (passes_of rfl) rfl (di_seq (ba := false) (de_var 1 (pv 1))) (dg_tup rfl (dgs_cons (dg_name 2 (pg_name hN rfl (by first | exact .inl rfl | exact .inr rfl))) (dgs_cons (dg_name 3 (pg_name hN rfl (by first | exact .inl rfl | exact .inr rfl))) (dgs_cons (dg_name 4 (pg_name hN rfl (by first | exact .inl rfl | exact .inr rfl))) dgs_nil))))
      (dss_cons (ds_set 12 hN (de_callB (call_min2 rfl) link_min2 rfl T.z_min bt_min (da_cons (DE.up (de_var 3 (pv 3))) (da_cons (DE.up (de_callB (call_max2 rfl) link_max2 rfl T.z_max bt_max (da_cons (DE.up de_int) (da_cons (DE.up (de_sub (de_var 9 (pv 9)) (de_var 11 (pv 11)))) da_nil)))) da_nil))))
        (dss_one (ds_par 10 11 rfl hN (da_cons (de_add (de_var 10 (pv 10)) (de_mul (de_var 12 (pv 12)) (de_dget2 (Nat.lt_of_le_of_lt (Nat.add_le_add_left (by decide : 1 ≤ 65) _) (units65 hr)) (DF.de (ba := false) (df_callT (call_dictP rfl) link_dictP rfl T.z_dict bt_dict (da_cons (DE.up (DF.de (ba := false) (df_callT call_list_of link_list rfl T.z_list bt_list (da_cons (DE.up (de_var 4 (pv 4))) da_nil)))) da_nil))) (de_var 6 (pv 6)) de_int M2.of))) (da_cons (de_add (de_var 11 (pv 11)) (de_var 3 (pv 3))) da_nil))))))
      (dss_cons (ds_set 13 hN (de_dget2 (Nat.lt_of_le_of_lt (Nat.add_le_add_left (by decide : 1 ≤ 65) _) (units65 hr)) (DF.de (ba := false) (df_callT (call_dictP rfl) link_dictP rfl T.z_dict bt_dict (da_cons (DE.up (DF.de (ba := false) (df_callT call_list_of link_list rfl T.z_list bt_list (da_cons (DE.up (de_ix (fun _ _ => rfl) (de_methS T.n_Packing T.sc_Packing (ok_Packing_room_at T) T.me_Packing_room_at hG (hr.mono (by decide)) (takes_of rfl rfl rfl rfl) (de_var 5 (pv 5)) rfl (da_cons (de_var 9 (pv 9)) da_nil)) de_int)) da_nil)))) da_nil))) (de_var 6 (pv 6)) de_int M2.of))
      (dss_one (ds_if (dt_not (dt_chain op_leD link_le op_ltD link_lt (de_var 10 (pv 10)) (de_var 8 (pv 8)) (de_add (de_var 10 (pv 10)) (de_var 13 (pv 13)))))
      (dss_one (ds_ret de_bool))
      dss_nil)))))))))
  (dss_one (ds_ret de_bool)))))
abbrev N_law : List Str := ["script", "spot", "dice", "one"]
theorem ok_law (T : Txt K mg) : FnD P w K mg base 10 T.f_law m_law := by
  have sc : FnScope N_law ["script"] (defScope s_law) := ⟨rfl, rfl, rfl, by decide +kernel, rfl, by decide +kernel, by decide +kernel⟩
  have hN := sc.nd
  refine (fnD_of (m := b_law) T.F_law sc T.b_law fun cdv A outer s H E hG hr => ?_)
  exact (dss_cons (ds_for (passes_of rfl) rfl (di_range1 (ba := false) rfl T.z_range (da_cons (DE.up (de_callB (call_max2 rfl) link_max2 rfl T.z_max bt_max (da_cons (DE.up de_int) (da_cons (DE.up (de_callB (call_min2 rfl) link_min2 rfl T.z_min bt_min (da_cons (DE.up de_int) (da_cons (DE.up (de_callB call_len link_len rfl T.z_len bt_len (da_cons (DE.up (de_var 0 (pv 0))) da_nil))) da_nil)))) da_nil)))) da_nil)) (dg_name 1 (pg_name hN rfl (by first | exact .inl rfl | exact .inr rfl)))
  (dss_cons (ds_set 2 hN (de_call (ok_law_dice T) hG (hr.mono (by decide)) (takes_of rfl rfl rfl rfl) rfl T.m_law_dice T.k_law_dice (da_cons (de_var 0 (pv 0)) (da_cons (de_var 1 (pv 1)) da_nil))))
    (dss_one (ds_if (dt_w (dw_or (dt_not (dt_val (de_call (ok_law_few_right T) hG (hr.mono (by decide)) (takes_of rfl rfl rfl rfl) rfl T.m_law_few_right T.k_law_few_right (da_cons (de_var 2 (pv 2)) da_nil)))) (dw_or1 (dt_not (dt_val (de_call (ok_law_great_right T) hG (hr.mono (by decide)) (takes_of rfl rfl rfl rfl) rfl T.m_law_great_right T.k_law_great_right (da_cons (de_var 2 (pv 2)) da_nil)))))))
    (dss_one (ds_ret de_bool))
    dss_nil))))
  (dss_cons (ds_set 3 hN (de_makeI T.n_Packing T.mk_Packing (ok_Packing_init T) hG (hr.mono (by decide)) (takes_of rfl rfl rfl rfl) rfl T.g_Packing (da_cons (de_tup (da_cons de_int (da_cons (de_pow de_int de_int) (da_cons (de_tup (da_cons (de_tup (da_cons de_int (da_cons de_int da_nil))) (da_cons (de_tup (da_cons de_int (da_cons de_int da_nil))) da_nil))) da_nil)))) (da_cons (de_tup (da_cons de_int (da_cons de_int (da_cons (de_tup (da_cons (de_tup (da_cons de_int (da_cons de_int da_nil))) da_nil)) da_nil)))) da_nil))))
  (dss_one (ds_ret (de_cmp (op_eqD hr.units) link_eq (nomark _) (DF.de (ba := false) (df_lst (da_cons (de_methS T.n_Packing T.sc_Packing (ok_Packing_spot_of T) T.me_Packing_spot_of hG (hr.mono (by decide)) (takes_of rfl rfl rfl rfl) (de_var 3 (pv 3)) rfl (da_cons de_int (da_cons (de_sub (de_mul de_int (de_pow de_int de_int)) de_int) da_nil))) (da_cons (de_methS T.n_Packing T.sc_Packing (ok_Packing_spot_of T) T.me_Packing_spot_of hG (hr.mono (by decide)) (takes_of rfl rfl rfl rfl) (de_var 3 (pv 3)) rfl (da_cons de_int (da_cons de_int da_nil))) (da_cons (de_methS T.n_Packing T.sc_Packing (ok_Packing_spot_of T) T.me_Packing_spot_of hG (hr.mono (by decide)) (takes_of rfl rfl rfl rfl) (de_var 3 (pv 3)) rfl (da_cons de_int (da_cons de_int da_nil))) da_nil))))) (DF.de (ba := false) (df_lst (da_cons (de_sub (de_pow de_int de_int) de_int) (da_cons (de_add (de_pow de_int de_int) de_int) (da_cons de_int da_nil))))))))))
end
end DL.Law
set_option Elab.async false
set_option linter.all false
set_option maxRecDepth 100000
set_option maxHeartbeats 4000000
namespace DL.Law
open DL
open PySem PySem.Spec PyProof.Rows L2
variable [TabsC]
theorem all_mk {l : PySem.W.OpenLaw} {w : World} {K : PySem.W.Frag} {h : Heap} {mg : Str → Option Value} {fa CPacking QPacking CInvalidNumber fiInvalidNumber NInvalidNumber CInvalidPacking CNoRoom fiNoRoom NNoRoom f0 f1 f2 f3 f4 f5 f6 f7 f8 f9 f10 f11 f12 f13 f14 f15 f16 f17 f18 f19 f20 f21 f22 f23 f24 f25 f26 f27 p27 f28 f29 f30 f31 : Addr} (X : K.In h) (G : h.Ns mainGlobals mg) (hfa : mg "law" = some (.ref fa))
    {odInvalidNumber anInvalidNumber ddInvalidNumber odNoRoom anNoRoom ddNoRoom od0 an0 od1 an1 od2 an2 od3 an3 od4 an4 od5 an5 od6 an6 od7 an7 od8 an8 od9 an9 od10 an10 od11 an11 od12 an12 od13 an13 od14 an14 od15 an15 od16 an16 od17 an17 od18 an18 od19 an19 od20 an20 od21 an21 od22 an22 od23 an23 od24 an24 od25 an25 od26 an26 od27 an27 od28 an28 od29 an29 od30 an30 od31 an31 : Option Addr} {slInvalidNumber slNoRoom sl0 sl1 sl2 sl3 sl4 sl5 sl6 sl7 sl8 sl9 sl10 sl11 sl12 sl13 sl14 sl15 sl16 sl17 sl18 sl19 sl20 sl21 sl22 sl23 sl24 sl25 sl26 sl27 sl28 sl29 sl30 sl31 : Array (Option Value)} {ocInvalidNumber dcInvalidNumber pmInvalidNumber cdInvalidNumber ctInvalidNumber ocNoRoom dcNoRoom pmNoRoom cdNoRoom ctNoRoom oc0 kV0 dc0 pm0 cd0 ct0 oc1 kV1 dc1 pm1 cd1 ct1 oc2 kV2 dc2 pm2 cd2 ct2 oc3 kV3 dc3 pm3 cd3 ct3 oc4 kV4 dc4 pm4 cd4 ct4 oc5 kV5 dc5 pm5 cd5 ct5 oc6 kV6 dc6 pm6 cd6 ct6 oc7 kV7 dc7 pm7 cd7 ct7 oc8 kV8 dc8 pm8 cd8 ct8 oc9 kV9 dc9 pm9 cd9 ct9 oc10 kV10 dc10 pm10 cd10 ct10 oc11 kV11 dc11 pm11 cd11 ct11 oc12 kV12 dc12 pm12 cd12 ct12 oc13 kV13 dc13 pm13 cd13 ct13 oc14 kV14 dc14 pm14 cd14 ct14 oc15 kV15 dc15 pm15 cd15 ct15 oc16 kV16 dc16 pm16 cd16 ct16 oc17 kV17 dc17 pm17 cd17 ct17 oc18 kV18 dc18 pm18 cd18 ct18 oc19 kV19 dc19 pm19 cd19 ct19 oc20 kV20 dc20 pm20 cd20 ct20 oc21 kV21 dc21 pm21 cd21 ct21 oc22 kV22 dc22 pm22 cd22 ct22 oc23 kV23 dc23 pm23 cd23 ct23 oc24 kV24 dc24 pm24 cd24 ct24 oc25 kV25 dc25 pm25 cd25 ct25 oc26 kV26 dc26 pm26 cd26 ct26 oc27 kV27 dc27 pm27 cd27 ct27 oc28 kV28 dc28 pm28 cd28 ct28 oc29 kV29 dc29 pm29 cd29 ct29 oc30 kV30 dc30 pm30 cd30 ct30 oc31 kV31 dc31 pm31 cd31 ct31 : Value} {t_LIMIT t_MAX_RUNS t_MAX_SIZES t_MAX_STORE : Tok} {nmInvalidNumber qqInvalidNumber : Str} {bsInvalidNumber bmInvalidNumber sbInvalidNumber : List Value} {snInvalidNumber : List Str} {abInvalidNumber : Bool} {coInvalidNumber : Option Bool} {e0InvalidNumber e1InvalidNumber e2InvalidNumber e3InvalidNumber e5InvalidNumber : Option Value} {nmNoRoom qqNoRoom : Str} {bsNoRoom bmNoRoom sbNoRoom : List Value} {snNoRoom : List Str} {abNoRoom : Bool} {coNoRoom : Option Bool} {e0NoRoom e1NoRoom e2NoRoom e3NoRoom e5NoRoom : Option Value} {rs27 : List Value}
    (n_Packing : PySem.W.nsIn K mainGlobals "Packing" = some (some (.ref CPacking)))
    (s1_Packing : PySem.W.plainGet K CPacking Str.empty = true)
    (s2_Packing : PySem.W.isClsIn K CPacking = true)
    (s3_Packing : PySem.W.plainOver K CPacking = true)
    (s4_Packing : PySem.W.findIn K (.ref CPacking) "__setattr__" = some (some (.builtin "object.__setattr__")))
    (t1_Packing : PySem.W.findIn K (.ref CPacking) "own_runs" = some (some (.ref QPacking)))
    (t2_Packing : PySem.W.specialIn K (.ref QPacking) "__get__" = some (some (.builtin "member_descriptor.__get__")))
    (t3_Packing : PySem.W.takesIn K (.ref QPacking) = some true)
    (t4_Packing : PySem.W.typeIn K (.ref QPacking) = some (.type "member_descriptor"))
    (t5_Packing : PySem.W.slotIn K QPacking CPacking = some 0)
    (u1_Packing : PySem.W.findIn K (.ref CPacking) "__class__" = some (some (.builtin "object.__class__")))
    (u2_Packing : PySem.W.specialIn K (.builtin "object.__class__") "__get__" = some (some (.builtin "getset_descriptor.__get__")))
    (u3_Packing : PySem.W.takesIn K (.builtin "object.__class__") = some true)
    (u4_Packing : PySem.W.mroIn K CPacking (.type "object") = some true)
    (ki_Packing : kitAll K CPacking = true)
    (kk2 : (([] : List (Str × Addr)).all fun p => ([] : List (Str × Addr)).all fun q => decide (PySem.W.kitOne K (.ref p.2) (.ref q.2) = some (decide (p.1 = q.1)))) = true)
    (kk3 : (([] : List (Str × Addr)).all fun p => insTyB K p.2) = true)
    (kk4 : (([] : List (Str × Addr)).all fun p => kitBack K p.2) = true)
    (kk5 : (([("Packing", CPacking)] : List (Str × Addr)).all fun p => ([("Packing", CPacking)] : List (Str × Addr)).all fun q => decide (PySem.W.kitOne K (.ref p.2) (.ref q.2) = some (decide (p.1 = q.1)))) = true)
    (n_InvalidNumber : PySem.W.nsIn K mainGlobals "InvalidNumber" = some (some (.ref CInvalidNumber)))
    (xc_InvalidNumber : K.lookup CInvalidNumber = some (excClassObj nmInvalidNumber qqInvalidNumber CInvalidNumber NInvalidNumber bsInvalidNumber bmInvalidNumber true snInvalidNumber sbInvalidNumber abInvalidNumber coInvalidNumber ddInvalidNumber e0InvalidNumber e1InvalidNumber e2InvalidNumber e3InvalidNumber e5InvalidNumber "IndexError.__new__"))
    (xb_InvalidNumber : refsT [.type "IndexError", .type "LookupError", .type "Exception", .type "BaseException", .type "object"] bmInvalidNumber = true)
    (xsa_InvalidNumber : PySem.W.findIn K (.ref CInvalidNumber) "__setattr__" = some (some (.builtin "object.__setattr__")))
    (xga_InvalidNumber : PySem.W.findIn K (.ref CInvalidNumber) "__getattribute__" = some (some (.builtin "BaseException.__getattribute__")))
    (xgg_InvalidNumber : PySem.W.findIn K (.ref CInvalidNumber) "__getattr__" = some none)
    (xno_InvalidNumber : PySem.W.findIn K (.ref CInvalidNumber) "value" = some none)
    (xi_InvalidNumber : PySem.W.findIn K (.ref CInvalidNumber) "__init__" = some (some (.ref fiInvalidNumber)))
    (xt_InvalidNumber : PySem.W.typeIn K (.ref fiInvalidNumber) = some (.type "function"))
    (xk_InvalidNumber : PySem.W.keepIn K (.ref CInvalidNumber) = true)
    (xe_InvalidNumber : PySem.W.subIn K (.ref CInvalidNumber) (.type "BaseException") = some true)
    (xy_InvalidNumber : PySem.W.typeIn K (.ref CInvalidNumber) = some (.type "type"))
    (xh_InvalidNumber : PySem.W.hasDictIn K CInvalidNumber = true)
    (xl_InvalidNumber : K.lookup fiInvalidNumber = some ⟨ocInvalidNumber, odInvalidNumber, .func (PySem.W.fnOf "__init__" "InvalidNumber.__init__" (xA "value" ⟨23, 17, 23, 21⟩ ⟨23, 23, 23, 28⟩) (xB "value" ⟨24, 8, 24, 12⟩ ⟨24, 8, 24, 18⟩ ⟨24, 21, 24, 26⟩ ⟨24, 8, 24, 26⟩) (xS "value") .none .none dcInvalidNumber pmInvalidNumber anInvalidNumber cdInvalidNumber ctInvalidNumber), slInvalidNumber⟩)
    (xcd_InvalidNumber : PySem.W.codeIn K cdInvalidNumber "InvalidNumber.__init__" = true)
    (n_InvalidPacking : PySem.W.nsIn K mainGlobals "InvalidPacking" = some (some (.ref CInvalidPacking)))
    (xi_InvalidPacking : PySem.W.excIn K CInvalidPacking [.type "ValueError", .type "Exception", .type "BaseException", .type "object"] "ValueError.__new__" = true)
    (kp_InvalidPacking : PySem.W.keepIn K (.ref CInvalidPacking) = true)
    (sb_InvalidPacking : PySem.W.subIn K (.ref CInvalidPacking) (.type "BaseException") = some true)
    (ty_InvalidPacking : PySem.W.typeIn K (.ref CInvalidPacking) = some (.type "type"))
    (n_NoRoom : PySem.W.nsIn K mainGlobals "NoRoom" = some (some (.ref CNoRoom)))
    (xc_NoRoom : K.lookup CNoRoom = some (excClassObj nmNoRoom qqNoRoom CNoRoom NNoRoom bsNoRoom bmNoRoom true snNoRoom sbNoRoom abNoRoom coNoRoom ddNoRoom e0NoRoom e1NoRoom e2NoRoom e3NoRoom e5NoRoom "LookupError.__new__"))
    (xb_NoRoom : refsT [.type "LookupError", .type "Exception", .type "BaseException", .type "object"] bmNoRoom = true)
    (xsa_NoRoom : PySem.W.findIn K (.ref CNoRoom) "__setattr__" = some (some (.builtin "object.__setattr__")))
    (xga_NoRoom : PySem.W.findIn K (.ref CNoRoom) "__getattribute__" = some (some (.builtin "BaseException.__getattribute__")))
    (xgg_NoRoom : PySem.W.findIn K (.ref CNoRoom) "__getattr__" = some none)
    (xno_NoRoom : PySem.W.findIn K (.ref CNoRoom) "size" = some none)
    (xi_NoRoom : PySem.W.findIn K (.ref CNoRoom) "__init__" = some (some (.ref fiNoRoom)))
    (xt_NoRoom : PySem.W.typeIn K (.ref fiNoRoom) = some (.type "function"))
    (xk_NoRoom : PySem.W.keepIn K (.ref CNoRoom) = true)
    (xe_NoRoom : PySem.W.subIn K (.ref CNoRoom) (.type "BaseException") = some true)
    (xy_NoRoom : PySem.W.typeIn K (.ref CNoRoom) = some (.type "type"))
    (xh_NoRoom : PySem.W.hasDictIn K CNoRoom = true)
    (xl_NoRoom : K.lookup fiNoRoom = some ⟨ocNoRoom, odNoRoom, .func (PySem.W.fnOf "__init__" "NoRoom.__init__" (xA "size" ⟨19, 17, 19, 21⟩ ⟨19, 23, 19, 27⟩) (xB "size" ⟨20, 8, 20, 12⟩ ⟨20, 8, 20, 17⟩ ⟨20, 20, 20, 24⟩ ⟨20, 8, 20, 24⟩) (xS "size") .none .none dcNoRoom pmNoRoom anNoRoom cdNoRoom ctNoRoom), slNoRoom⟩)
    (xcd_NoRoom : PySem.W.codeIn K cdNoRoom "NoRoom.__init__" = true)
    (a0 : PySem.W.nsIn K mainGlobals "is_integer" = some (some (.ref f0)))
    (l0 : K.lookup f0 = some ⟨oc0, od0, .func (PySem.W.fnOf "is_integer" "is_integer" (defArgs s_is_integer) (defBody s_is_integer) (defScope s_is_integer) .none kV0 dc0 pm0 an0 cd0 ct0), sl0⟩) (c0 : PySem.W.codeIn K cd0 "is_integer" = true) (k0 : PySem.W.keepIn K (.ref f0) = true)
    (a1 : PySem.W.nsIn K mainGlobals "is_size" = some (some (.ref f1)))
    (l1 : K.lookup f1 = some ⟨oc1, od1, .func (PySem.W.fnOf "is_size" "is_size" (defArgs s_is_size) (defBody s_is_size) (defScope s_is_size) .none kV1 dc1 pm1 an1 cd1 ct1), sl1⟩) (c1 : PySem.W.codeIn K cd1 "is_size" = true) (k1 : PySem.W.keepIn K (.ref f1) = true)
    (a2 : PySem.W.nsIn K mainGlobals "is_filling" = some (some (.ref f2)))
    (l2 : K.lookup f2 = some ⟨oc2, od2, .func (PySem.W.fnOf "is_filling" "is_filling" (defArgs s_is_filling) (defBody s_is_filling) (defScope s_is_filling) .none kV2 dc2 pm2 an2 cd2 ct2), sl2⟩) (c2 : PySem.W.codeIn K cd2 "is_filling" = true) (k2 : PySem.W.keepIn K (.ref f2) = true)
    (a3 : PySem.W.nsIn K mainGlobals "load_in" = some (some (.ref f3)))
    (l3 : K.lookup f3 = some ⟨oc3, od3, .func (PySem.W.fnOf "load_in" "load_in" (defArgs s_load_in) (defBody s_load_in) (defScope s_load_in) .none kV3 dc3 pm3 an3 cd3 ct3), sl3⟩) (c3 : PySem.W.codeIn K cd3 "load_in" = true) (k3 : PySem.W.keepIn K (.ref f3) = true)
    (a4 : PySem.W.nsIn K mainGlobals "is_run" = some (some (.ref f4)))
    (l4 : K.lookup f4 = some ⟨oc4, od4, .func (PySem.W.fnOf "is_run" "is_run" (defArgs s_is_run) (defBody s_is_run) (defScope s_is_run) .none kV4 dc4 pm4 an4 cd4 ct4), sl4⟩) (c4 : PySem.W.codeIn K cd4 "is_run" = true) (k4 : PySem.W.keepIn K (.ref f4) = true)
    (a5 : PySem.W.nsIn K mainGlobals "joined_runs" = some (some (.ref f5)))
    (l5 : K.lookup f5 = some ⟨oc5, od5, .func (PySem.W.fnOf "joined_runs" "joined_runs" (defArgs s_joined_runs) (defBody s_joined_runs) (defScope s_joined_runs) .none kV5 dc5 pm5 an5 cd5 ct5), sl5⟩) (c5 : PySem.W.codeIn K cd5 "joined_runs" = true) (k5 : PySem.W.keepIn K (.ref f5) = true)
    (a6 : PySem.W.nsIn K mainGlobals "rooms_in" = some (some (.ref f6)))
    (l6 : K.lookup f6 = some ⟨oc6, od6, .func (PySem.W.fnOf "rooms_in" "rooms_in" (defArgs s_rooms_in) (defBody s_rooms_in) (defScope s_rooms_in) .none kV6 dc6 pm6 an6 cd6 ct6), sl6⟩) (c6 : PySem.W.codeIn K cd6 "rooms_in" = true) (k6 : PySem.W.keepIn K (.ref f6) = true)
    (a7 : PySem.W.nsIn K mainGlobals "sizes_in" = some (some (.ref f7)))
    (l7 : K.lookup f7 = some ⟨oc7, od7, .func (PySem.W.fnOf "sizes_in" "sizes_in" (defArgs s_sizes_in) (defBody s_sizes_in) (defScope s_sizes_in) .none kV7 dc7 pm7 an7 cd7 ct7), sl7⟩) (c7 : PySem.W.codeIn K cd7 "sizes_in" = true) (k7 : PySem.W.keepIn K (.ref f7) = true)
    (a8 : PySem.W.findIn K (.ref CPacking) "__init__" = some (some (.ref f8)))
    (i8 : PySem.W.isFn K (.ref f8) = true)
    (mi_Packing : PySem.W.makesIn K CPacking = true)
    (mk_Packing : PySem.W.keepIn K (.ref CPacking) = true)
    (l8 : K.lookup f8 = some ⟨oc8, od8, .func (PySem.W.fnOf "__init__" "Packing.__init__" (defArgs s_Packing_init) (defBody s_Packing_init) (defScope s_Packing_init) .none kV8 dc8 pm8 an8 cd8 ct8), sl8⟩) (c8 : PySem.W.codeIn K cd8 "Packing.__init__" = true) (k8 : PySem.W.keepIn K (.ref f8) = true)
    (a9 : PySem.W.findIn K (.ref CPacking) "things" = some (some (.ref f9)))
    (i9 : PySem.W.isFn K (.ref f9) = true)
    (l9 : K.lookup f9 = some ⟨oc9, od9, .func (PySem.W.fnOf "things" "Packing.things" (defArgs s_Packing_things) (defBody s_Packing_things) (defScope s_Packing_things) .none kV9 dc9 pm9 an9 cd9 ct9), sl9⟩) (c9 : PySem.W.codeIn K cd9 "Packing.things" = true) (k9 : PySem.W.keepIn K (.ref f9) = true)
    (a10 : PySem.W.nsIn K mainGlobals "is_count" = some (some (.ref f10)))
    (l10 : K.lookup f10 = some ⟨oc10, od10, .func (PySem.W.fnOf "is_count" "is_count" (defArgs s_is_count) (defBody s_is_count) (defScope s_is_count) .none kV10 dc10 pm10 an10 cd10 ct10), sl10⟩) (c10 : PySem.W.codeIn K cd10 "is_count" = true) (k10 : PySem.W.keepIn K (.ref f10) = true)
    (a11 : PySem.W.nsIn K mainGlobals "is_index" = some (some (.ref f11)))
    (l11 : K.lookup f11 = some ⟨oc11, od11, .func (PySem.W.fnOf "is_index" "is_index" (defArgs s_is_index) (defBody s_is_index) (defScope s_is_index) .none kV11 dc11 pm11 an11 cd11 ct11), sl11⟩) (c11 : PySem.W.codeIn K cd11 "is_index" = true) (k11 : PySem.W.keepIn K (.ref f11) = true)
    (a12 : PySem.W.findIn K (.ref CPacking) "spot_of" = some (some (.ref f12)))
    (i12 : PySem.W.isFn K (.ref f12) = true)
    (l12 : K.lookup f12 = some ⟨oc12, od12, .func (PySem.W.fnOf "spot_of" "Packing.spot_of" (defArgs s_Packing_spot_of) (defBody s_Packing_spot_of) (defScope s_Packing_spot_of) .none kV12 dc12 pm12 an12 cd12 ct12), sl12⟩) (c12 : PySem.W.codeIn K cd12 "Packing.spot_of" = true) (k12 : PySem.W.keepIn K (.ref f12) = true)
    (a13 : PySem.W.nsIn K mainGlobals "_law_dice" = some (some (.ref f13)))
    (l13 : K.lookup f13 = some ⟨oc13, od13, .func (PySem.W.fnOf "_law_dice" "_law_dice" (defArgs s_law_dice) (defBody s_law_dice) (defScope s_law_dice) .none kV13 dc13 pm13 an13 cd13 ct13), sl13⟩) (c13 : PySem.W.codeIn K cd13 "_law_dice" = true) (k13 : PySem.W.keepIn K (.ref f13) = true)
    (a14 : PySem.W.nsIn K mainGlobals "_law_filling_of" = some (some (.ref f14)))
    (l14 : K.lookup f14 = some ⟨oc14, od14, .func (PySem.W.fnOf "_law_filling_of" "_law_filling_of" (defArgs s_law_filling_of) (defBody s_law_filling_of) (defScope s_law_filling_of) .none kV14 dc14 pm14 an14 cd14 ct14), sl14⟩) (c14 : PySem.W.codeIn K cd14 "_law_filling_of" = true) (k14 : PySem.W.keepIn K (.ref f14) = true)
    (a15 : PySem.W.nsIn K mainGlobals "_law_roll" = some (some (.ref f15)))
    (l15 : K.lookup f15 = some ⟨oc15, od15, .func (PySem.W.fnOf "_law_roll" "_law_roll" (defArgs s_law_roll) (defBody s_law_roll) (defScope s_law_roll) .none kV15 dc15 pm15 an15 cd15 ct15), sl15⟩) (c15 : PySem.W.codeIn K cd15 "_law_roll" = true) (k15 : PySem.W.keepIn K (.ref f15) = true)
    (a16 : PySem.W.nsIn K mainGlobals "_law_drawn_filling" = some (some (.ref f16)))
    (l16 : K.lookup f16 = some ⟨oc16, od16, .func (PySem.W.fnOf "_law_drawn_filling" "_law_drawn_filling" (defArgs s_law_drawn_filling) (defBody s_law_drawn_filling) (defScope s_law_drawn_filling) .none kV16 dc16 pm16 an16 cd16 ct16), sl16⟩) (c16 : PySem.W.codeIn K cd16 "_law_drawn_filling" = true) (k16 : PySem.W.keepIn K (.ref f16) = true)
    (a17 : PySem.W.nsIn K mainGlobals "_law_load" = some (some (.ref f17)))
    (l17 : K.lookup f17 = some ⟨oc17, od17, .func (PySem.W.fnOf "_law_load" "_law_load" (defArgs s_law_load) (defBody s_law_load) (defScope s_law_load) .none kV17 dc17 pm17 an17 cd17 ct17), sl17⟩) (c17 : PySem.W.codeIn K cd17 "_law_load" = true) (k17 : PySem.W.keepIn K (.ref f17) = true)
    (a18 : PySem.W.nsIn K mainGlobals "_law_pick" = some (some (.ref f18)))
    (l18 : K.lookup f18 = some ⟨oc18, od18, .func (PySem.W.fnOf "_law_pick" "_law_pick" (defArgs s_law_pick) (defBody s_law_pick) (defScope s_law_pick) .none kV18 dc18 pm18 an18 cd18 ct18), sl18⟩) (c18 : PySem.W.codeIn K cd18 "_law_pick" = true) (k18 : PySem.W.keepIn K (.ref f18) = true)
    (a19 : PySem.W.nsIn K mainGlobals "_law_drawn_runs" = some (some (.ref f19)))
    (l19 : K.lookup f19 = some ⟨oc19, od19, .func (PySem.W.fnOf "_law_drawn_runs" "_law_drawn_runs" (defArgs s_law_drawn_runs) (defBody s_law_drawn_runs) (defScope s_law_drawn_runs) .none kV19 dc19 pm19 an19 cd19 ct19), sl19⟩) (c19 : PySem.W.codeIn K cd19 "_law_drawn_runs" = true) (k19 : PySem.W.keepIn K (.ref f19) = true)
    (a20 : PySem.W.findIn K (.ref CPacking) "joined" = some (some (.ref f20)))
    (i20 : PySem.W.isFn K (.ref f20) = true)
    (l20 : K.lookup f20 = some ⟨oc20, od20, .func (PySem.W.fnOf "joined" "Packing.joined" (defArgs s_Packing_joined) (defBody s_Packing_joined) (defScope s_Packing_joined) .none kV20 dc20 pm20 an20 cd20 ct20), sl20⟩) (c20 : PySem.W.codeIn K cd20 "Packing.joined" = true) (k20 : PySem.W.keepIn K (.ref f20) = true)
    (a21 : PySem.W.nsIn K mainGlobals "_law_made_packing" = some (some (.ref f21)))
    (l21 : K.lookup f21 = some ⟨oc21, od21, .func (PySem.W.fnOf "_law_made_packing" "_law_made_packing" (defArgs s_law_made_packing) (defBody s_law_made_packing) (defScope s_law_made_packing) .none kV21 dc21 pm21 an21 cd21 ct21), sl21⟩) (c21 : PySem.W.codeIn K cd21 "_law_made_packing" = true) (k21 : PySem.W.keepIn K (.ref f21) = true)
    (a22 : PySem.W.nsIn K mainGlobals "_law_single" = some (some (.ref f22)))
    (l22 : K.lookup f22 = some ⟨oc22, od22, .func (PySem.W.fnOf "_law_single" "_law_single" (defArgs s_law_single) (defBody s_law_single) (defScope s_law_single) .none kV22 dc22 pm22 an22 cd22 ct22), sl22⟩) (c22 : PySem.W.codeIn K cd22 "_law_single" = true) (k22 : PySem.W.keepIn K (.ref f22) = true)
    (a23 : PySem.W.nsIn K mainGlobals "_law_chain" = some (some (.ref f23)))
    (l23 : K.lookup f23 = some ⟨oc23, od23, .func (PySem.W.fnOf "_law_chain" "_law_chain" (defArgs s_law_chain) (defBody s_law_chain) (defScope s_law_chain) .none kV23 dc23 pm23 an23 cd23 ct23), sl23⟩) (c23 : PySem.W.codeIn K cd23 "_law_chain" = true) (k23 : PySem.W.keepIn K (.ref f23) = true)
    (a24 : PySem.W.nsIn K mainGlobals "_law_sizes_any" = some (some (.ref f24)))
    (l24 : K.lookup f24 = some ⟨oc24, od24, .func (PySem.W.fnOf "_law_sizes_any" "_law_sizes_any" (defArgs s_law_sizes_any) (defBody s_law_sizes_any) (defScope s_law_sizes_any) .none kV24 dc24 pm24 an24 cd24 ct24), sl24⟩) (c24 : PySem.W.codeIn K cd24 "_law_sizes_any" = true) (k24 : PySem.W.keepIn K (.ref f24) = true)
    (a25 : PySem.W.nsIn K mainGlobals "_law_things_of" = some (some (.ref f25)))
    (l25 : K.lookup f25 = some ⟨oc25, od25, .func (PySem.W.fnOf "_law_things_of" "_law_things_of" (defArgs s_law_things_of) (defBody s_law_things_of) (defScope s_law_things_of) .none kV25 dc25 pm25 an25 cd25 ct25), sl25⟩) (c25 : PySem.W.codeIn K cd25 "_law_things_of" = true) (k25 : PySem.W.keepIn K (.ref f25) = true)
    (a26 : PySem.W.nsIn K mainGlobals "_law_few_right" = some (some (.ref f26)))
    (l26 : K.lookup f26 = some ⟨oc26, od26, .func (PySem.W.fnOf "_law_few_right" "_law_few_right" (defArgs s_law_few_right) (defBody s_law_few_right) (defScope s_law_few_right) .none kV26 dc26 pm26 an26 cd26 ct26), sl26⟩) (c26 : PySem.W.codeIn K cd26 "_law_few_right" = true) (k26 : PySem.W.keepIn K (.ref f26) = true)
    (a27 : PySem.W.findIn K (.ref CPacking) "number" = some (some (.ref p27)))
    (pg27 : PySem.W.specialIn K (.ref p27) "__get__" = some (some (.builtin "property.__get__")))
    (pt27 : PySem.W.takesIn K (.ref p27) = some true)
    (pc27 : PySem.W.recIn K p27 "property" = some (.ref f27 :: rs27))
    (l27 : K.lookup f27 = some ⟨oc27, od27, .func (PySem.W.fnOf "number" "Packing.number" (defArgs s_Packing_number) (defBody s_Packing_number) (defScope s_Packing_number) .none kV27 dc27 pm27 an27 cd27 ct27), sl27⟩) (c27 : PySem.W.codeIn K cd27 "Packing.number" = true) (k27 : PySem.W.keepIn K (.ref f27) = true)
    (a28 : PySem.W.findIn K (.ref CPacking) "run_at" = some (some (.ref f28)))
    (i28 : PySem.W.isFn K (.ref f28) = true)
    (l28 : K.lookup f28 = some ⟨oc28, od28, .func (PySem.W.fnOf "run_at" "Packing.run_at" (defArgs s_Packing_run_at) (defBody s_Packing_run_at) (defScope s_Packing_run_at) .none kV28 dc28 pm28 an28 cd28 ct28), sl28⟩) (c28 : PySem.W.codeIn K cd28 "Packing.run_at" = true) (k28 : PySem.W.keepIn K (.ref f28) = true)
    (a29 : PySem.W.findIn K (.ref CPacking) "room_at" = some (some (.ref f29)))
    (i29 : PySem.W.isFn K (.ref f29) = true)
    (l29 : K.lookup f29 = some ⟨oc29, od29, .func (PySem.W.fnOf "room_at" "Packing.room_at" (defArgs s_Packing_room_at) (defBody s_Packing_room_at) (defScope s_Packing_room_at) .none kV29 dc29 pm29 an29 cd29 ct29), sl29⟩) (c29 : PySem.W.codeIn K cd29 "Packing.room_at" = true) (k29 : PySem.W.keepIn K (.ref f29) = true)
    (a30 : PySem.W.nsIn K mainGlobals "_law_great_right" = some (some (.ref f30)))
    (l30 : K.lookup f30 = some ⟨oc30, od30, .func (PySem.W.fnOf "_law_great_right" "_law_great_right" (defArgs s_law_great_right) (defBody s_law_great_right) (defScope s_law_great_right) .none kV30 dc30 pm30 an30 cd30 ct30), sl30⟩) (c30 : PySem.W.codeIn K cd30 "_law_great_right" = true) (k30 : PySem.W.keepIn K (.ref f30) = true)
    (a31 : PySem.W.nsIn K mainGlobals "law" = some (some (.ref f31)))
    (l31 : K.lookup f31 = some ⟨oc31, od31, .func (PySem.W.fnOf "law" "law" (defArgs s_law) (defBody s_law) (defScope s_law) .none kV31 dc31 pm31 an31 cd31 ct31), sl31⟩) (c31 : PySem.W.codeIn K cd31 "law" = true) (k31 : PySem.W.keepIn K (.ref f31) = true)
    (z_abs : PySem.W.nsIn K mainGlobals "abs" = some none)
    (z_all : PySem.W.nsIn K mainGlobals "all" = some none)
    (z_bool : PySem.W.nsIn K mainGlobals "bool" = some none)
    (z_dict : PySem.W.nsIn K mainGlobals "dict" = some none)
    (z_enumerate : PySem.W.nsIn K mainGlobals "enumerate" = some none)
    (z_int : PySem.W.nsIn K mainGlobals "int" = some none)
    (z_isinstance : PySem.W.nsIn K mainGlobals "isinstance" = some none)
    (z_len : PySem.W.nsIn K mainGlobals "len" = some none)
    (z_list : PySem.W.nsIn K mainGlobals "list" = some none)
    (z_max : PySem.W.nsIn K mainGlobals "max" = some none)
    (z_min : PySem.W.nsIn K mainGlobals "min" = some none)
    (z_range : PySem.W.nsIn K mainGlobals "range" = some none)
    (z_set : PySem.W.nsIn K mainGlobals "set" = some none)
    (z_sorted : PySem.W.nsIn K mainGlobals "sorted" = some none)
    (z_sum : PySem.W.nsIn K mainGlobals "sum" = some none)
    (z_tuple : PySem.W.nsIn K mainGlobals "tuple" = some none)
    (z_zip : PySem.W.nsIn K mainGlobals "zip" = some none)
    (g_LIMIT : PySem.W.nsIn K mainGlobals "LIMIT" = some (some (.int 100000000000000000000000000000000000000000000000000000000000000000000000000000000000000000000000000000000000000000000000000000000000000000000000000000000000000000000000000000000000000000000000000000000 t_LIMIT)))
    (g_MAX_RUNS : PySem.W.nsIn K mainGlobals "MAX_RUNS" = some (some (.int 2000 t_MAX_RUNS)))
    (g_MAX_SIZES : PySem.W.nsIn K mainGlobals "MAX_SIZES" = some (some (.int 12 t_MAX_SIZES)))
    (g_MAX_STORE : PySem.W.nsIn K mainGlobals "MAX_STORE" = some (some (.int 40 t_MAX_STORE))) :
    ∀ base : Heap, K.In base → base.Ns mainGlobals mg → FnD l.prog w K mg base 10 fa m_law := by
  have e := hfa.symm.trans (PySem.W.mg_of X G a31)
  cases e
  let T : Txt K mg := {
    C_Packing := CPacking,
    n_Packing := n_Packing,
    g_Packing := PySem.W.mg_of X G n_Packing,
    sc_Packing := ⟨s1_Packing, s2_Packing, s3_Packing, s4_Packing⟩,
    q_Packing := QPacking,
    st_Packing := ⟨t1_Packing, t2_Packing, t3_Packing, t4_Packing, t5_Packing, by decide⟩,
    ki_Packing := ki_Packing,
    kits := KitOwn.of [] rfl (by decide) (by intro p hp; cases hp) kk2 kk3,
    kback := BackOwn.of [] rfl (by intro p hp; cases hp) kk4,
    ksl := KitSl.of (KitOwn.of [] rfl (by decide) (by intro p hp; cases hp) kk2 kk3) [("Packing", CPacking)] rfl (by intro p hp; simp only [List.mem_cons, List.not_mem_nil, or_false] at hp; rcases hp with rfl <;> assumption) kk5 (by intro m Cm hm hn; simp only [List.mem_cons, List.not_mem_nil, or_false] at hm; rcases hm with rfl; · (rw [n_Packing] at hn; cases hn; exact ⟨⟨s1_Packing, s2_Packing, s3_Packing, s4_Packing⟩, ⟨u1_Packing, u2_Packing, u3_Packing, u4_Packing⟩⟩)),
    C_InvalidNumber := CInvalidNumber,
    n_InvalidNumber := n_InvalidNumber,
    g_InvalidNumber := PySem.W.mg_of X G n_InvalidNumber,
    fi_InvalidNumber := fiInvalidNumber,
    x_InvalidNumber := ⟨⟨_, _, _, _, _, _, _, _, _, _, _, _, _, _, _, xc_InvalidNumber, xb_InvalidNumber⟩, xsa_InvalidNumber, xga_InvalidNumber, xgg_InvalidNumber, xno_InvalidNumber, xi_InvalidNumber, xt_InvalidNumber, xk_InvalidNumber, xe_InvalidNumber, xy_InvalidNumber, xh_InvalidNumber, ⟨_, _, _, _, _, _, _, _, _, _, _, _, _, _, xl_InvalidNumber, xcd_InvalidNumber⟩⟩,
    xf_InvalidNumber := ⟨xga_InvalidNumber, xgg_InvalidNumber, xe_InvalidNumber, xh_InvalidNumber⟩,
    C_InvalidPacking := CInvalidPacking,
    n_InvalidPacking := n_InvalidPacking,
    g_InvalidPacking := PySem.W.mg_of X G n_InvalidPacking,
    xi_InvalidPacking := xi_InvalidPacking,
    kp_InvalidPacking := kp_InvalidPacking,
    sb_InvalidPacking := sb_InvalidPacking,
    ty_InvalidPacking := ty_InvalidPacking,
    C_NoRoom := CNoRoom,
    n_NoRoom := n_NoRoom,
    g_NoRoom := PySem.W.mg_of X G n_NoRoom,
    fi_NoRoom := fiNoRoom,
    x_NoRoom := ⟨⟨_, _, _, _, _, _, _, _, _, _, _, _, _, _, _, xc_NoRoom, xb_NoRoom⟩, xsa_NoRoom, xga_NoRoom, xgg_NoRoom, xno_NoRoom, xi_NoRoom, xt_NoRoom, xk_NoRoom, xe_NoRoom, xy_NoRoom, xh_NoRoom, ⟨_, _, _, _, _, _, _, _, _, _, _, _, _, _, xl_NoRoom, xcd_NoRoom⟩⟩,
    xf_NoRoom := ⟨xga_NoRoom, xgg_NoRoom, xe_NoRoom, xh_NoRoom⟩,
    f_is_integer := f0,
    d_is_integer := _,
    F_is_integer := fun_mk (st := s_is_integer) l0 c0 k0,
    m_is_integer := PySem.W.mg_of X G a0,
    k_is_integer := k0,
    b_is_integer := (fun_mk (st := s_is_integer) l0 c0 k0).binds fun _ _ _ _ _ _ us hl => match us, hl with | [_], _ => rfl,
    f_is_size := f1,
    d_is_size := _,
    F_is_size := fun_mk (st := s_is_size) l1 c1 k1,
    m_is_size := PySem.W.mg_of X G a1,
    k_is_size := k1,
    b_is_size := (fun_mk (st := s_is_size) l1 c1 k1).binds fun _ _ _ _ _ _ us hl => match us, hl with | [_], _ => rfl,
    f_is_filling := f2,
    d_is_filling := _,
    F_is_filling := fun_mk (st := s_is_filling) l2 c2 k2,
    m_is_filling := PySem.W.mg_of X G a2,
    k_is_filling := k2,
    b_is_filling := (fun_mk (st := s_is_filling) l2 c2 k2).binds fun _ _ _ _ _ _ us hl => match us, hl with | [_], _ => rfl,
    f_load_in := f3,
    d_load_in := _,
    F_load_in := fun_mk (st := s_load_in) l3 c3 k3,
    m_load_in := PySem.W.mg_of X G a3,
    k_load_in := k3,
    b_load_in := (fun_mk (st := s_load_in) l3 c3 k3).binds fun _ _ _ _ _ _ us hl => match us, hl with | [_], _ => rfl,
    f_is_run := f4,
    d_is_run := _,
    F_is_run := fun_mk (st := s_is_run) l4 c4 k4,
    m_is_run := PySem.W.mg_of X G a4,
    k_is_run := k4,
    b_is_run := (fun_mk (st := s_is_run) l4 c4 k4).binds fun _ _ _ _ _ _ us hl => match us, hl with | [_], _ => rfl,
    f_joined_runs := f5,
    d_joined_runs := _,
    F_joined_runs := fun_mk (st := s_joined_runs) l5 c5 k5,
    m_joined_runs := PySem.W.mg_of X G a5,
    k_joined_runs := k5,
    b_joined_runs := (fun_mk (st := s_joined_runs) l5 c5 k5).binds fun _ _ _ _ _ _ us hl => match us, hl with | [_], _ => rfl,
    f_rooms_in := f6,
    d_rooms_in := _,
    F_rooms_in := fun_mk (st := s_rooms_in) l6 c6 k6,
    m_rooms_in := PySem.W.mg_of X G a6,
    k_rooms_in := k6,
    b_rooms_in := (fun_mk (st := s_rooms_in) l6 c6 k6).binds fun _ _ _ _ _ _ us hl => match us, hl with | [_], _ => rfl,
    f_sizes_in := f7,
    d_sizes_in := _,
    F_sizes_in := fun_mk (st := s_sizes_in) l7 c7 k7,
    m_sizes_in := PySem.W.mg_of X G a7,
    k_sizes_in := k7,
    b_sizes_in := (fun_mk (st := s_sizes_in) l7 c7 k7).binds fun _ _ _ _ _ _ us hl => match us, hl with | [_], _ => rfl,
    mk_Packing := ⟨mi_Packing, a8, i8, mk_Packing⟩,
    f_Packing_init := f8,
    d_Packing_init := _,
    F_Packing_init := fun_mk (st := s_Packing_init) l8 c8 k8,
    b_Packing_init := StX.bind_star1 (B := fun xs => bindArgs _ ⟨xs, []⟩) (fun a => rfl) (fun a r rs => rfl),
    f_Packing_things := f9,
    d_Packing_things := _,
    F_Packing_things := fun_mk (st := s_Packing_things) l9 c9 k9,
    me_Packing_things := ⟨a9, i9, k9⟩,
    b_Packing_things := (fun_mk (st := s_Packing_things) l9 c9 k9).binds fun _ _ _ _ _ _ us hl => match us, hl with | [_], _ => rfl,
    f_is_count := f10,
    d_is_count := _,
    F_is_count := fun_mk (st := s_is_count) l10 c10 k10,
    m_is_count := PySem.W.mg_of X G a10,
    k_is_count := k10,
    b_is_count := (fun_mk (st := s_is_count) l10 c10 k10).binds fun _ _ _ _ _ _ us hl => match us, hl with | [_], _ => rfl,
    f_is_index := f11,
    d_is_index := _,
    F_is_index := fun_mk (st := s_is_index) l11 c11 k11,
    m_is_index := PySem.W.mg_of X G a11,
    k_is_index := k11,
    b_is_index := (fun_mk (st := s_is_index) l11 c11 k11).binds fun _ _ _ _ _ _ us hl => match us, hl with | [_, _], _ => rfl,
    f_Packing_spot_of := f12,
    d_Packing_spot_of := _,
    F_Packing_spot_of := fun_mk (st := s_Packing_spot_of) l12 c12 k12,
    me_Packing_spot_of := ⟨a12, i12, k12⟩,
    b_Packing_spot_of := (fun_mk (st := s_Packing_spot_of) l12 c12 k12).binds fun _ _ _ _ _ _ us hl => match us, hl with | [_, _, _], _ => rfl,
    f_law_dice := f13,
    d_law_dice := _,
    F_law_dice := fun_mk (st := s_law_dice) l13 c13 k13,
    m_law_dice := PySem.W.mg_of X G a13,
    k_law_dice := k13,
    b_law_dice := (fun_mk (st := s_law_dice) l13 c13 k13).binds fun _ _ _ _ _ _ us hl => match us, hl with | [_, _], _ => rfl,
    f_law_filling_of := f14,
    d_law_filling_of := _,
    F_law_filling_of := fun_mk (st := s_law_filling_of) l14 c14 k14,
    m_law_filling_of := PySem.W.mg_of X G a14,
    k_law_filling_of := k14,
    b_law_filling_of := (fun_mk (st := s_law_filling_of) l14 c14 k14).binds fun _ _ _ _ _ _ us hl => match us, hl with | [_], _ => rfl,
    f_law_roll := f15,
    d_law_roll := _,
    F_law_roll := fun_mk (st := s_law_roll) l15 c15 k15,
    m_law_roll := PySem.W.mg_of X G a15,
    k_law_roll := k15,
    b_law_roll := (fun_mk (st := s_law_roll) l15 c15 k15).binds fun _ _ _ _ _ _ us hl => match us, hl with | [_, _], _ => rfl,
    f_law_drawn_filling := f16,
    d_law_drawn_filling := _,
    F_law_drawn_filling := fun_mk (st := s_law_drawn_filling) l16 c16 k16,
    m_law_drawn_filling := PySem.W.mg_of X G a16,
    k_law_drawn_filling := k16,
    b_law_drawn_filling := (fun_mk (st := s_law_drawn_filling) l16 c16 k16).binds fun _ _ _ _ _ _ us hl => match us, hl with | [_, _, _], _ => rfl,
    f_law_load := f17,
    d_law_load := _,
    F_law_load := fun_mk (st := s_law_load) l17 c17 k17,
    m_law_load := PySem.W.mg_of X G a17,
    k_law_load := k17,
    b_law_load := (fun_mk (st := s_law_load) l17 c17 k17).binds fun _ _ _ _ _ _ us hl => match us, hl with | [_], _ => rfl,
    f_law_pick := f18,
    d_law_pick := _,
    F_law_pick := fun_mk (st := s_law_pick) l18 c18 k18,
    m_law_pick := PySem.W.mg_of X G a18,
    k_law_pick := k18,
    b_law_pick := (fun_mk (st := s_law_pick) l18 c18 k18).binds fun _ _ _ _ _ _ us hl => match us, hl with | [_, _], _ => rfl,
    f_law_drawn_runs := f19,
    d_law_drawn_runs := _,
    F_law_drawn_runs := fun_mk (st := s_law_drawn_runs) l19 c19 k19,
    m_law_drawn_runs := PySem.W.mg_of X G a19,
    k_law_drawn_runs := k19,
    b_law_drawn_runs := (fun_mk (st := s_law_drawn_runs) l19 c19 k19).binds fun _ _ _ _ _ _ us hl => match us, hl with | [_, _, _, _], _ => rfl,
    f_Packing_joined := f20,
    d_Packing_joined := _,
    F_Packing_joined := fun_mk (st := s_Packing_joined) l20 c20 k20,
    me_Packing_joined := ⟨a20, i20, k20⟩,
    b_Packing_joined := (fun_mk (st := s_Packing_joined) l20 c20 k20).binds fun _ _ _ _ _ _ us hl => match us, hl with | [_, _], _ => rfl,
    f_law_made_packing := f21,
    d_law_made_packing := _,
    F_law_made_packing := fun_mk (st := s_law_made_packing) l21 c21 k21,
    m_law_made_packing := PySem.W.mg_of X G a21,
    k_law_made_packing := k21,
    b_law_made_packing := (fun_mk (st := s_law_made_packing) l21 c21 k21).binds fun _ _ _ _ _ _ us hl => match us, hl with | [_], _ => rfl,
    f_law_single := f22,
    d_law_single := _,
    F_law_single := fun_mk (st := s_law_single) l22 c22 k22,
    m_law_single := PySem.W.mg_of X G a22,
    k_law_single := k22,
    b_law_single := (fun_mk (st := s_law_single) l22 c22 k22).binds fun _ _ _ _ _ _ us hl => match us, hl with | [_], _ => rfl,
    f_law_chain := f23,
    d_law_chain := _,
    F_law_chain := fun_mk (st := s_law_chain) l23 c23 k23,
    m_law_chain := PySem.W.mg_of X G a23,
    k_law_chain := k23,
    b_law_chain := (fun_mk (st := s_law_chain) l23 c23 k23).binds fun _ _ _ _ _ _ us hl => match us, hl with | [_, _, _], _ => rfl,
    f_law_sizes_any := f24,
    d_law_sizes_any := _,
    F_law_sizes_any := fun_mk (st := s_law_sizes_any) l24 c24 k24,
    m_law_sizes_any := PySem.W.mg_of X G a24,
    k_law_sizes_any := k24,
    b_law_sizes_any := (fun_mk (st := s_law_sizes_any) l24 c24 k24).binds fun _ _ _ _ _ _ us hl => match us, hl with | [_, _], _ => rfl,
    f_law_things_of := f25,
    d_law_things_of := _,
    F_law_things_of := fun_mk (st := s_law_things_of) l25 c25 k25,
    m_law_things_of := PySem.W.mg_of X G a25,
    k_law_things_of := k25,
    b_law_things_of := (fun_mk (st := s_law_things_of) l25 c25 k25).binds fun _ _ _ _ _ _ us hl => match us, hl with | [_], _ => rfl,
    f_law_few_right := f26,
    d_law_few_right := _,
    F_law_few_right := fun_mk (st := s_law_few_right) l26 c26 k26,
    m_law_few_right := PySem.W.mg_of X G a26,
    k_law_few_right := k26,
    b_law_few_right := (fun_mk (st := s_law_few_right) l26 c26 k26).binds fun _ _ _ _ _ _ us hl => match us, hl with | [_], _ => rfl,
    p_Packing_number := p27,
    pr_Packing_number := ⟨a27, pg27, pt27, _, pc27⟩,
    f_Packing_number := f27,
    d_Packing_number := _,
    F_Packing_number := fun_mk (st := s_Packing_number) l27 c27 k27,
    b_Packing_number := (fun_mk (st := s_Packing_number) l27 c27 k27).binds fun _ _ _ _ _ _ us hl => match us, hl with | [_], _ => rfl,
    f_Packing_run_at := f28,
    d_Packing_run_at := _,
    F_Packing_run_at := fun_mk (st := s_Packing_run_at) l28 c28 k28,
    me_Packing_run_at := ⟨a28, i28, k28⟩,
    b_Packing_run_at := (fun_mk (st := s_Packing_run_at) l28 c28 k28).binds fun _ _ _ _ _ _ us hl => match us, hl with | [_, _], _ => rfl,
    f_Packing_room_at := f29,
    d_Packing_room_at := _,
    F_Packing_room_at := fun_mk (st := s_Packing_room_at) l29 c29 k29,
    me_Packing_room_at := ⟨a29, i29, k29⟩,
    b_Packing_room_at := (fun_mk (st := s_Packing_room_at) l29 c29 k29).binds fun _ _ _ _ _ _ us hl => match us, hl with | [_, _], _ => rfl,
    f_law_great_right := f30,
    d_law_great_right := _,
    F_law_great_right := fun_mk (st := s_law_great_right) l30 c30 k30,
    m_law_great_right := PySem.W.mg_of X G a30,
    k_law_great_right := k30,
    b_law_great_right := (fun_mk (st := s_law_great_right) l30 c30 k30).binds fun _ _ _ _ _ _ us hl => match us, hl with | [_], _ => rfl,
    f_law := fa,
    d_law := _,
    F_law := fun_mk (st := s_law) l31 c31 k31,
    m_law := PySem.W.mg_of X G a31,
    k_law := k31,
    b_law := (fun_mk (st := s_law) l31 c31 k31).binds fun _ _ _ _ _ _ us hl => match us, hl with | [_], _ => rfl,
    z_abs := PySem.W.mg_none_of X G z_abs,
    z_all := PySem.W.mg_none_of X G z_all,
    z_bool := PySem.W.mg_none_of X G z_bool,
    z_dict := PySem.W.mg_none_of X G z_dict,
    z_enumerate := PySem.W.mg_none_of X G z_enumerate,
    z_int := PySem.W.mg_none_of X G z_int,
    z_isinstance := PySem.W.mg_none_of X G z_isinstance,
    z_len := PySem.W.mg_none_of X G z_len,
    z_list := PySem.W.mg_none_of X G z_list,
    z_max := PySem.W.mg_none_of X G z_max,
    z_min := PySem.W.mg_none_of X G z_min,
    z_range := PySem.W.mg_none_of X G z_range,
    z_set := PySem.W.mg_none_of X G z_set,
    z_sorted := PySem.W.mg_none_of X G z_sorted,
    z_sum := PySem.W.mg_none_of X G z_sum,
    z_tuple := PySem.W.mg_none_of X G z_tuple,
    z_zip := PySem.W.mg_none_of X G z_zip,
    t_LIMIT := t_LIMIT,
    g_LIMIT := PySem.W.mg_of X G g_LIMIT,
    t_MAX_RUNS := t_MAX_RUNS,
    g_MAX_RUNS := PySem.W.mg_of X G g_MAX_RUNS,
    t_MAX_SIZES := t_MAX_SIZES,
    g_MAX_SIZES := PySem.W.mg_of X G g_MAX_SIZES,
    t_MAX_STORE := t_MAX_STORE,
    g_MAX_STORE := PySem.W.mg_of X G g_MAX_STORE }
  exact fun base _ _ => ok_law T
end DL.Law
namespace DL.Law
open DL
open PySem PySem.Spec PyProof.Rows L2
theorem head_mk [TabsC] {l : PySem.W.OpenLaw} {w : World} {K : PySem.W.Frag} {h : Heap} {mg : Str → Option Value} {fa : Addr} (X : K.In h) (G : h.Ns mainGlobals mg) (hfa : mg "law" = some (.ref fa)) (c : DL.SaysM FNS EX K) :
    ∀ base : Heap, K.In base → base.Ns mainGlobals mg → FnD l.prog w K mg base 10 fa m_law := by
  have n_Packing : PySem.W.nsIn K mainGlobals "Packing" = some (some (.ref (He.ga K "Packing"))) := of_decide_eq_true (c.b 0)
  have s1_Packing : PySem.W.plainGet K (He.ga K "Packing") Str.empty = true := (c.b 1)
  have s2_Packing : PySem.W.isClsIn K (He.ga K "Packing") = true := (c.b 2)
  have s3_Packing : PySem.W.plainOver K (He.ga K "Packing") = true := (c.b 3)
  have s4_Packing : PySem.W.findIn K (.ref (He.ga K "Packing")) "__setattr__" = some (some (.builtin "object.__setattr__")) := of_decide_eq_true (c.b 4)
  have t1_Packing : PySem.W.findIn K (.ref (He.ga K "Packing")) "own_runs" = some (some (.ref (He.ma K (He.ga K "Packing") "own_runs"))) := of_decide_eq_true (c.b 5)
  have t2_Packing : PySem.W.specialIn K (.ref (He.ma K (He.ga K "Packing") "own_runs")) "__get__" = some (some (.builtin "member_descriptor.__get__")) := of_decide_eq_true (c.b 6)
  have t3_Packing : PySem.W.takesIn K (.ref (He.ma K (He.ga K "Packing") "own_runs")) = some true := of_decide_eq_true (c.b 7)
  have t4_Packing : PySem.W.typeIn K (.ref (He.ma K (He.ga K "Packing") "own_runs")) = some (.type "member_descriptor") := of_decide_eq_true (c.b 8)
  have t5_Packing : PySem.W.slotIn K (He.ma K (He.ga K "Packing") "own_runs") (He.ga K "Packing") = some 0 := of_decide_eq_true (c.b 9)
  have u1_Packing : PySem.W.findIn K (.ref (He.ga K "Packing")) "__class__" = some (some (.builtin "object.__class__")) := of_decide_eq_true (c.b 10)
  have u2_Packing : PySem.W.specialIn K (.builtin "object.__class__") "__get__" = some (some (.builtin "getset_descriptor.__get__")) := of_decide_eq_true (c.b 11)
  have u3_Packing : PySem.W.takesIn K (.builtin "object.__class__") = some true := of_decide_eq_true (c.b 12)
  have u4_Packing : PySem.W.mroIn K (He.ga K "Packing") (.type "object") = some true := of_decide_eq_true (c.b 13)
  have ki_Packing : kitAll K (He.ga K "Packing") = true := (c.b 14)
  have kk2 : (([] : List (Str × Addr)).all fun p => ([] : List (Str × Addr)).all fun q => decide (PySem.W.kitOne K (.ref p.2) (.ref q.2) = some (decide (p.1 = q.1)))) = true := (c.b 15)
  have kk3 : (([] : List (Str × Addr)).all fun p => insTyB K p.2) = true := (c.b 16)
  have kk4 : (([] : List (Str × Addr)).all fun p => kitBack K p.2) = true := (c.b 17)
  have kk5 : (([("Packing", (He.ga K "Packing"))] : List (Str × Addr)).all fun p => ([("Packing", (He.ga K "Packing"))] : List (Str × Addr)).all fun q => decide (PySem.W.kitOne K (.ref p.2) (.ref q.2) = some (decide (p.1 = q.1)))) = true := (c.b 18)
  have n_InvalidNumber : PySem.W.nsIn K mainGlobals "InvalidNumber" = some (some (.ref (He.ga K "InvalidNumber"))) := of_decide_eq_true (c.b 19)
  obtain ⟨nmInvalidNumber, qqInvalidNumber, NInvalidNumber, bsInvalidNumber, bmInvalidNumber, snInvalidNumber, sbInvalidNumber, abInvalidNumber, coInvalidNumber, ddInvalidNumber, e0InvalidNumber, e1InvalidNumber, e2InvalidNumber, e3InvalidNumber, e5InvalidNumber, xc_InvalidNumber, xb_InvalidNumber⟩ := DL.xc_ok (c.b 20)
  have xsa_InvalidNumber : PySem.W.findIn K (.ref (He.ga K "InvalidNumber")) "__setattr__" = some (some (.builtin "object.__setattr__")) := of_decide_eq_true (c.b 21)
  have xga_InvalidNumber : PySem.W.findIn K (.ref (He.ga K "InvalidNumber")) "__getattribute__" = some (some (.builtin "BaseException.__getattribute__")) := of_decide_eq_true (c.b 22)
  have xgg_InvalidNumber : PySem.W.findIn K (.ref (He.ga K "InvalidNumber")) "__getattr__" = some none := of_decide_eq_true (c.b 23)
  have xno_InvalidNumber : PySem.W.findIn K (.ref (He.ga K "InvalidNumber")) "value" = some none := of_decide_eq_true (c.b 24)
  have xi_InvalidNumber : PySem.W.findIn K (.ref (He.ga K "InvalidNumber")) "__init__" = some (some (.ref (He.ma K (He.ga K "InvalidNumber") "__init__"))) := of_decide_eq_true (c.b 25)
  have xt_InvalidNumber : PySem.W.typeIn K (.ref (He.ma K (He.ga K "InvalidNumber") "__init__")) = some (.type "function") := of_decide_eq_true (c.b 26)
  have xk_InvalidNumber : PySem.W.keepIn K (.ref (He.ga K "InvalidNumber")) = true := (c.b 27)
  have xe_InvalidNumber : PySem.W.subIn K (.ref (He.ga K "InvalidNumber")) (.type "BaseException") = some true := of_decide_eq_true (c.b 28)
  have xy_InvalidNumber : PySem.W.typeIn K (.ref (He.ga K "InvalidNumber")) = some (.type "type") := of_decide_eq_true (c.b 29)
  have xh_InvalidNumber : PySem.W.hasDictIn K (He.ga K "InvalidNumber") = true := (c.b 30)
  have v0 : DL.fnV K (He.ma K (He.ga K "InvalidNumber") "__init__") = (some ("__init__", "InvalidNumber.__init__", (xA "value" ⟨23, 17, 23, 21⟩ ⟨23, 23, 23, 28⟩), .stmts (xB "value" ⟨24, 8, 24, 12⟩ ⟨24, 8, 24, 18⟩ ⟨24, 21, 24, 26⟩ ⟨24, 8, 24, 26⟩), (xS "value"), mainGlobals, [], builtinsNs) : He.FnW) := c.f 0 (d := fd0)
  obtain ⟨ocInvalidNumber, odInvalidNumber, dcInvalidNumber, pmInvalidNumber, anInvalidNumber, cdInvalidNumber, ctInvalidNumber, slInvalidNumber, xl_InvalidNumber, xcd_InvalidNumber⟩ := DL.fn_okx v0 (c.b 31)
  have n_InvalidPacking : PySem.W.nsIn K mainGlobals "InvalidPacking" = some (some (.ref (He.ga K "InvalidPacking"))) := of_decide_eq_true (c.b 32)
  have xi_InvalidPacking : PySem.W.excIn K (He.ga K "InvalidPacking") [.type "ValueError", .type "Exception", .type "BaseException", .type "object"] "ValueError.__new__" = true := (c.b 33)
  have kp_InvalidPacking : PySem.W.keepIn K (.ref (He.ga K "InvalidPacking")) = true := (c.b 34)
  have sb_InvalidPacking : PySem.W.subIn K (.ref (He.ga K "InvalidPacking")) (.type "BaseException") = some true := of_decide_eq_true (c.b 35)
  have ty_InvalidPacking : PySem.W.typeIn K (.ref (He.ga K "InvalidPacking")) = some (.type "type") := of_decide_eq_true (c.b 36)
  have n_NoRoom : PySem.W.nsIn K mainGlobals "NoRoom" = some (some (.ref (He.ga K "NoRoom"))) := of_decide_eq_true (c.b 37)
  obtain ⟨nmNoRoom, qqNoRoom, NNoRoom, bsNoRoom, bmNoRoom, snNoRoom, sbNoRoom, abNoRoom, coNoRoom, ddNoRoom, e0NoRoom, e1NoRoom, e2NoRoom, e3NoRoom, e5NoRoom, xc_NoRoom, xb_NoRoom⟩ := DL.xc_ok (c.b 38)
  have xsa_NoRoom : PySem.W.findIn K (.ref (He.ga K "NoRoom")) "__setattr__" = some (some (.builtin "object.__setattr__")) := of_decide_eq_true (c.b 39)
  have xga_NoRoom : PySem.W.findIn K (.ref (He.ga K "NoRoom")) "__getattribute__" = some (some (.builtin "BaseException.__getattribute__")) := of_decide_eq_true (c.b 40)
  have xgg_NoRoom : PySem.W.findIn K (.ref (He.ga K "NoRoom")) "__getattr__" = some none := of_decide_eq_true (c.b 41)
  have xno_NoRoom : PySem.W.findIn K (.ref (He.ga K "NoRoom")) "size" = some none := of_decide_eq_true (c.b 42)
  have xi_NoRoom : PySem.W.findIn K (.ref (He.ga K "NoRoom")) "__init__" = some (some (.ref (He.ma K (He.ga K "NoRoom") "__init__"))) := of_decide_eq_true (c.b 43)
  have xt_NoRoom : PySem.W.typeIn K (.ref (He.ma K (He.ga K "NoRoom") "__init__")) = some (.type "function") := of_decide_eq_true (c.b 44)
  have xk_NoRoom : PySem.W.keepIn K (.ref (He.ga K "NoRoom")) = true := (c.b 45)
  have xe_NoRoom : PySem.W.subIn K (.ref (He.ga K "NoRoom")) (.type "BaseException") = some true := of_decide_eq_true (c.b 46)
  have xy_NoRoom : PySem.W.typeIn K (.ref (He.ga K "NoRoom")) = some (.type "type") := of_decide_eq_true (c.b 47)
  have xh_NoRoom : PySem.W.hasDictIn K (He.ga K "NoRoom") = true := (c.b 48)
  have v1 : DL.fnV K (He.ma K (He.ga K "NoRoom") "__init__") = (some ("__init__", "NoRoom.__init__", (xA "size" ⟨19, 17, 19, 21⟩ ⟨19, 23, 19, 27⟩), .stmts (xB "size" ⟨20, 8, 20, 12⟩ ⟨20, 8, 20, 17⟩ ⟨20, 20, 20, 24⟩ ⟨20, 8, 20, 24⟩), (xS "size"), mainGlobals, [], builtinsNs) : He.FnW) := c.f 1 (d := fd1)
  obtain ⟨ocNoRoom, odNoRoom, dcNoRoom, pmNoRoom, anNoRoom, cdNoRoom, ctNoRoom, slNoRoom, xl_NoRoom, xcd_NoRoom⟩ := DL.fn_okx v1 (c.b 49)
  have a0 : PySem.W.nsIn K mainGlobals "is_integer" = some (some (.ref (He.ga K "is_integer"))) := of_decide_eq_true (c.b 50)
  have v2 : DL.fnV K (He.ga K "is_integer") = (some ("is_integer", "is_integer", (defArgs s_is_integer), .stmts (defBody s_is_integer), (defScope s_is_integer), mainGlobals, [], builtinsNs) : He.FnW) := c.f 2 (d := fd2)
  obtain ⟨oc0, od0, kV0, dc0, pm0, an0, cd0, ct0, sl0, l0, c0⟩ := DL.fn_ok0 v2 (c.b 51)
  have k0 : PySem.W.keepIn K (.ref (He.ga K "is_integer")) = true := (c.b 52)
  have a1 : PySem.W.nsIn K mainGlobals "is_size" = some (some (.ref (He.ga K "is_size"))) := of_decide_eq_true (c.b 53)
  have v3 : DL.fnV K (He.ga K "is_size") = (some ("is_size", "is_size", (defArgs s_is_size), .stmts (defBody s_is_size), (defScope s_is_size), mainGlobals, [], builtinsNs) : He.FnW) := c.f 3 (d := fd3)
  obtain ⟨oc1, od1, kV1, dc1, pm1, an1, cd1, ct1, sl1, l1, c1⟩ := DL.fn_ok0 v3 (c.b 54)
  have k1 : PySem.W.keepIn K (.ref (He.ga K "is_size")) = true := (c.b 55)
  have a2 : PySem.W.nsIn K mainGlobals "is_filling" = some (some (.ref (He.ga K "is_filling"))) := of_decide_eq_true (c.b 56)
  have v4 : DL.fnV K (He.ga K "is_filling") = (some ("is_filling", "is_filling", (defArgs s_is_filling), .stmts (defBody s_is_filling), (defScope s_is_filling), mainGlobals, [], builtinsNs) : He.FnW) := c.f 4 (d := fd4)
  obtain ⟨oc2, od2, kV2, dc2, pm2, an2, cd2, ct2, sl2, l2, c2⟩ := DL.fn_ok0 v4 (c.b 57)
  have k2 : PySem.W.keepIn K (.ref (He.ga K "is_filling")) = true := (c.b 58)
  have a3 : PySem.W.nsIn K mainGlobals "load_in" = some (some (.ref (He.ga K "load_in"))) := of_decide_eq_true (c.b 59)
  have v5 : DL.fnV K (He.ga K "load_in") = (some ("load_in", "load_in", (defArgs s_load_in), .stmts (defBody s_load_in), (defScope s_load_in), mainGlobals, [], builtinsNs) : He.FnW) := c.f 5 (d := fd5)
  obtain ⟨oc3, od3, kV3, dc3, pm3, an3, cd3, ct3, sl3, l3, c3⟩ := DL.fn_ok0 v5 (c.b 60)
  have k3 : PySem.W.keepIn K (.ref (He.ga K "load_in")) = true := (c.b 61)
  have a4 : PySem.W.nsIn K mainGlobals "is_run" = some (some (.ref (He.ga K "is_run"))) := of_decide_eq_true (c.b 62)
  have v6 : DL.fnV K (He.ga K "is_run") = (some ("is_run", "is_run", (defArgs s_is_run), .stmts (defBody s_is_run), (defScope s_is_run), mainGlobals, [], builtinsNs) : He.FnW) := c.f 6 (d := fd6)
  obtain ⟨oc4, od4, kV4, dc4, pm4, an4, cd4, ct4, sl4, l4, c4⟩ := DL.fn_ok0 v6 (c.b 63)
  have k4 : PySem.W.keepIn K (.ref (He.ga K "is_run")) = true := (c.b 64)
  have a5 : PySem.W.nsIn K mainGlobals "joined_runs" = some (some (.ref (He.ga K "joined_runs"))) := of_decide_eq_true (c.b 65)
  have v7 : DL.fnV K (He.ga K "joined_runs") = (some ("joined_runs", "joined_runs", (defArgs s_joined_runs), .stmts (defBody s_joined_runs), (defScope s_joined_runs), mainGlobals, [], builtinsNs) : He.FnW) := c.f 7 (d := fd7)
  obtain ⟨oc5, od5, kV5, dc5, pm5, an5, cd5, ct5, sl5, l5, c5⟩ := DL.fn_ok0 v7 (c.b 66)
  have k5 : PySem.W.keepIn K (.ref (He.ga K "joined_runs")) = true := (c.b 67)
  have a6 : PySem.W.nsIn K mainGlobals "rooms_in" = some (some (.ref (He.ga K "rooms_in"))) := of_decide_eq_true (c.b 68)
  have v8 : DL.fnV K (He.ga K "rooms_in") = (some ("rooms_in", "rooms_in", (defArgs s_rooms_in), .stmts (defBody s_rooms_in), (defScope s_rooms_in), mainGlobals, [], builtinsNs) : He.FnW) := c.f 8 (d := fd8)
  obtain ⟨oc6, od6, kV6, dc6, pm6, an6, cd6, ct6, sl6, l6, c6⟩ := DL.fn_ok0 v8 (c.b 69)
  have k6 : PySem.W.keepIn K (.ref (He.ga K "rooms_in")) = true := (c.b 70)
  have a7 : PySem.W.nsIn K mainGlobals "sizes_in" = some (some (.ref (He.ga K "sizes_in"))) := of_decide_eq_true (c.b 71)
  have v9 : DL.fnV K (He.ga K "sizes_in") = (some ("sizes_in", "sizes_in", (defArgs s_sizes_in), .stmts (defBody s_sizes_in), (defScope s_sizes_in), mainGlobals, [], builtinsNs) : He.FnW) := c.f 9 (d := fd9)
  obtain ⟨oc7, od7, kV7, dc7, pm7, an7, cd7, ct7, sl7, l7, c7⟩ := DL.fn_ok0 v9 (c.b 72)
  have k7 : PySem.W.keepIn K (.ref (He.ga K "sizes_in")) = true := (c.b 73)
  have a8 : PySem.W.findIn K (.ref (He.ga K "Packing")) "__init__" = some (some (.ref (He.ma K (He.ga K "Packing") "__init__"))) := of_decide_eq_true (c.b 74)
  have i8 : PySem.W.isFn K (.ref (He.ma K (He.ga K "Packing") "__init__")) = true := (c.b 75)
  have mi_Packing : PySem.W.makesIn K (He.ga K "Packing") = true := (c.b 76)
  have mk_Packing : PySem.W.keepIn K (.ref (He.ga K "Packing")) = true := (c.b 77)
  have v10 : DL.fnV K (He.ma K (He.ga K "Packing") "__init__") = (some ("__init__", "Packing.__init__", (defArgs s_Packing_init), .stmts (defBody s_Packing_init), (defScope s_Packing_init), mainGlobals, [], builtinsNs) : He.FnW) := c.f 10 (d := fd10)
  obtain ⟨oc8, od8, kV8, dc8, pm8, an8, cd8, ct8, sl8, l8, c8⟩ := DL.fn_ok0 v10 (c.b 78)
  have k8 : PySem.W.keepIn K (.ref (He.ma K (He.ga K "Packing") "__init__")) = true := (c.b 79)
  have a9 : PySem.W.findIn K (.ref (He.ga K "Packing")) "things" = some (some (.ref (He.ma K (He.ga K "Packing") "things"))) := of_decide_eq_true (c.b 80)
  have i9 : PySem.W.isFn K (.ref (He.ma K (He.ga K "Packing") "things")) = true := (c.b 81)
  have v11 : DL.fnV K (He.ma K (He.ga K "Packing") "things") = (some ("things", "Packing.things", (defArgs s_Packing_things), .stmts (defBody s_Packing_things), (defScope s_Packing_things), mainGlobals, [], builtinsNs) : He.FnW) := c.f 11 (d := fd11)
  obtain ⟨oc9, od9, kV9, dc9, pm9, an9, cd9, ct9, sl9, l9, c9⟩ := DL.fn_ok0 v11 (c.b 82)
  have k9 : PySem.W.keepIn K (.ref (He.ma K (He.ga K "Packing") "things")) = true := (c.b 83)
  have a10 : PySem.W.nsIn K mainGlobals "is_count" = some (some (.ref (He.ga K "is_count"))) := of_decide_eq_true (c.b 84)
  have v12 : DL.fnV K (He.ga K "is_count") = (some ("is_count", "is_count", (defArgs s_is_count), .stmts (defBody s_is_count), (defScope s_is_count), mainGlobals, [], builtinsNs) : He.FnW) := c.f 12 (d := fd12)
  obtain ⟨oc10, od10, kV10, dc10, pm10, an10, cd10, ct10, sl10, l10, c10⟩ := DL.fn_ok0 v12 (c.b 85)
  have k10 : PySem.W.keepIn K (.ref (He.ga K "is_count")) = true := (c.b 86)
  have a11 : PySem.W.nsIn K mainGlobals "is_index" = some (some (.ref (He.ga K "is_index"))) := of_decide_eq_true (c.b 87)
  have v13 : DL.fnV K (He.ga K "is_index") = (some ("is_index", "is_index", (defArgs s_is_index), .stmts (defBody s_is_index), (defScope s_is_index), mainGlobals, [], builtinsNs) : He.FnW) := c.f 13 (d := fd13)
  obtain ⟨oc11, od11, kV11, dc11, pm11, an11, cd11, ct11, sl11, l11, c11⟩ := DL.fn_ok0 v13 (c.b 88)
  have k11 : PySem.W.keepIn K (.ref (He.ga K "is_index")) = true := (c.b 89)
  have a12 : PySem.W.findIn K (.ref (He.ga K "Packing")) "spot_of" = some (some (.ref (He.ma K (He.ga K "Packing") "spot_of"))) := of_decide_eq_true (c.b 90)
  have i12 : PySem.W.isFn K (.ref (He.ma K (He.ga K "Packing") "spot_of")) = true := (c.b 91)
  have v14 : DL.fnV K (He.ma K (He.ga K "Packing") "spot_of") = (some ("spot_of", "Packing.spot_of", (defArgs s_Packing_spot_of), .stmts (defBody s_Packing_spot_of), (defScope s_Packing_spot_of), mainGlobals, [], builtinsNs) : He.FnW) := c.f 14 (d := fd14)
  obtain ⟨oc12, od12, kV12, dc12, pm12, an12, cd12, ct12, sl12, l12, c12⟩ := DL.fn_ok0 v14 (c.b 92)
  have k12 : PySem.W.keepIn K (.ref (He.ma K (He.ga K "Packing") "spot_of")) = true := (c.b 93)
  have a13 : PySem.W.nsIn K mainGlobals "_law_dice" = some (some (.ref (He.ga K "_law_dice"))) := of_decide_eq_true (c.b 94)
  have v15 : DL.fnV K (He.ga K "_law_dice") = (some ("_law_dice", "_law_dice", (defArgs s_law_dice), .stmts (defBody s_law_dice), (defScope s_law_dice), mainGlobals, [], builtinsNs) : He.FnW) := c.f 15 (d := fd15)
  obtain ⟨oc13, od13, kV13, dc13, pm13, an13, cd13, ct13, sl13, l13, c13⟩ := DL.fn_ok0 v15 (c.b 95)
  have k13 : PySem.W.keepIn K (.ref (He.ga K "_law_dice")) = true := (c.b 96)
  have a14 : PySem.W.nsIn K mainGlobals "_law_filling_of" = some (some (.ref (He.ga K "_law_filling_of"))) := of_decide_eq_true (c.b 97)
  have v16 : DL.fnV K (He.ga K "_law_filling_of") = (some ("_law_filling_of", "_law_filling_of", (defArgs s_law_filling_of), .stmts (defBody s_law_filling_of), (defScope s_law_filling_of), mainGlobals, [], builtinsNs) : He.FnW) := c.f 16 (d := fd16)
  obtain ⟨oc14, od14, kV14, dc14, pm14, an14, cd14, ct14, sl14, l14, c14⟩ := DL.fn_ok0 v16 (c.b 98)
  have k14 : PySem.W.keepIn K (.ref (He.ga K "_law_filling_of")) = true := (c.b 99)
  have a15 : PySem.W.nsIn K mainGlobals "_law_roll" = some (some (.ref (He.ga K "_law_roll"))) := of_decide_eq_true (c.b 100)
  have v17 : DL.fnV K (He.ga K "_law_roll") = (some ("_law_roll", "_law_roll", (defArgs s_law_roll), .stmts (defBody s_law_roll), (defScope s_law_roll), mainGlobals, [], builtinsNs) : He.FnW) := c.f 17 (d := fd17)
  obtain ⟨oc15, od15, kV15, dc15, pm15, an15, cd15, ct15, sl15, l15, c15⟩ := DL.fn_ok0 v17 (c.b 101)
  have k15 : PySem.W.keepIn K (.ref (He.ga K "_law_roll")) = true := (c.b 102)
  have a16 : PySem.W.nsIn K mainGlobals "_law_drawn_filling" = some (some (.ref (He.ga K "_law_drawn_filling"))) := of_decide_eq_true (c.b 103)
  have v18 : DL.fnV K (He.ga K "_law_drawn_filling") = (some ("_law_drawn_filling", "_law_drawn_filling", (defArgs s_law_drawn_filling), .stmts (defBody s_law_drawn_filling), (defScope s_law_drawn_filling), mainGlobals, [], builtinsNs) : He.FnW) := c.f 18 (d := fd18)
  obtain ⟨oc16, od16, kV16, dc16, pm16, an16, cd16, ct16, sl16, l16, c16⟩ := DL.fn_ok0 v18 (c.b 104)
  have k16 : PySem.W.keepIn K (.ref (He.ga K "_law_drawn_filling")) = true := (c.b 105)
  have a17 : PySem.W.nsIn K mainGlobals "_law_load" = some (some (.ref (He.ga K "_law_load"))) := of_decide_eq_true (c.b 106)
  have v19 : DL.fnV K (He.ga K "_law_load") = (some ("_law_load", "_law_load", (defArgs s_law_load), .stmts (defBody s_law_load), (defScope s_law_load), mainGlobals, [], builtinsNs) : He.FnW) := c.f 19 (d := fd19)
  obtain ⟨oc17, od17, kV17, dc17, pm17, an17, cd17, ct17, sl17, l17, c17⟩ := DL.fn_ok0 v19 (c.b 107)
  have k17 : PySem.W.keepIn K (.ref (He.ga K "_law_load")) = true := (c.b 108)
  have a18 : PySem.W.nsIn K mainGlobals "_law_pick" = some (some (.ref (He.ga K "_law_pick"))) := of_decide_eq_true (c.b 109)
  have v20 : DL.fnV K (He.ga K "_law_pick") = (some ("_law_pick", "_law_pick", (defArgs s_law_pick), .stmts (defBody s_law_pick), (defScope s_law_pick), mainGlobals, [], builtinsNs) : He.FnW) := c.f 20 (d := fd20)
  obtain ⟨oc18, od18, kV18, dc18, pm18, an18, cd18, ct18, sl18, l18, c18⟩ := DL.fn_ok0 v20 (c.b 110)
  have k18 : PySem.W.keepIn K (.ref (He.ga K "_law_pick")) = true := (c.b 111)
  have a19 : PySem.W.nsIn K mainGlobals "_law_drawn_runs" = some (some (.ref (He.ga K "_law_drawn_runs"))) := of_decide_eq_true (c.b 112)
  have v21 : DL.fnV K (He.ga K "_law_drawn_runs") = (some ("_law_drawn_runs", "_law_drawn_runs", (defArgs s_law_drawn_runs), .stmts (defBody s_law_drawn_runs), (defScope s_law_drawn_runs), mainGlobals, [], builtinsNs) : He.FnW) := c.f 21 (d := fd21)
  obtain ⟨oc19, od19, kV19, dc19, pm19, an19, cd19, ct19, sl19, l19, c19⟩ := DL.fn_ok0 v21 (c.b 113)
  have k19 : PySem.W.keepIn K (.ref (He.ga K "_law_drawn_runs")) = true := (c.b 114)
  have a20 : PySem.W.findIn K (.ref (He.ga K "Packing")) "joined" = some (some (.ref (He.ma K (He.ga K "Packing") "joined"))) := of_decide_eq_true (c.b 115)
  have i20 : PySem.W.isFn K (.ref (He.ma K (He.ga K "Packing") "joined")) = true := (c.b 116)
  have v22 : DL.fnV K (He.ma K (He.ga K "Packing") "joined") = (some ("joined", "Packing.joined", (defArgs s_Packing_joined), .stmts (defBody s_Packing_joined), (defScope s_Packing_joined), mainGlobals, [], builtinsNs) : He.FnW) := c.f 22 (d := fd22)
  obtain ⟨oc20, od20, kV20, dc20, pm20, an20, cd20, ct20, sl20, l20, c20⟩ := DL.fn_ok0 v22 (c.b 117)
  have k20 : PySem.W.keepIn K (.ref (He.ma K (He.ga K "Packing") "joined")) = true := (c.b 118)
  have a21 : PySem.W.nsIn K mainGlobals "_law_made_packing" = some (some (.ref (He.ga K "_law_made_packing"))) := of_decide_eq_true (c.b 119)
  have v23 : DL.fnV K (He.ga K "_law_made_packing") = (some ("_law_made_packing", "_law_made_packing", (defArgs s_law_made_packing), .stmts (defBody s_law_made_packing), (defScope s_law_made_packing), mainGlobals, [], builtinsNs) : He.FnW) := c.f 23 (d := fd23)
  obtain ⟨oc21, od21, kV21, dc21, pm21, an21, cd21, ct21, sl21, l21, c21⟩ := DL.fn_ok0 v23 (c.b 120)
  have k21 : PySem.W.keepIn K (.ref (He.ga K "_law_made_packing")) = true := (c.b 121)
  have a22 : PySem.W.nsIn K mainGlobals "_law_single" = some (some (.ref (He.ga K "_law_single"))) := of_decide_eq_true (c.b 122)
  have v24 : DL.fnV K (He.ga K "_law_single") = (some ("_law_single", "_law_single", (defArgs s_law_single), .stmts (defBody s_law_single), (defScope s_law_single), mainGlobals, [], builtinsNs) : He.FnW) := c.f 24 (d := fd24)
  obtain ⟨oc22, od22, kV22, dc22, pm22, an22, cd22, ct22, sl22, l22, c22⟩ := DL.fn_ok0 v24 (c.b 123)
  have k22 : PySem.W.keepIn K (.ref (He.ga K "_law_single")) = true := (c.b 124)
  have a23 : PySem.W.nsIn K mainGlobals "_law_chain" = some (some (.ref (He.ga K "_law_chain"))) := of_decide_eq_true (c.b 125)
  have v25 : DL.fnV K (He.ga K "_law_chain") = (some ("_law_chain", "_law_chain", (defArgs s_law_chain), .stmts (defBody s_law_chain), (defScope s_law_chain), mainGlobals, [], builtinsNs) : He.FnW) := c.f 25 (d := fd25)
  obtain ⟨oc23, od23, kV23, dc23, pm23, an23, cd23, ct23, sl23, l23, c23⟩ := DL.fn_ok0 v25 (c.b 126)
  have k23 : PySem.W.keepIn K (.ref (He.ga K "_law_chain")) = true := (c.b 127)
  have a24 : PySem.W.nsIn K mainGlobals "_law_sizes_any" = some (some (.ref (He.ga K "_law_sizes_any"))) := of_decide_eq_true (c.b 128)
  have v26 : DL.fnV K (He.ga K "_law_sizes_any") = (some ("_law_sizes_any", "_law_sizes_any", (defArgs s_law_sizes_any), .stmts (defBody s_law_sizes_any), (defScope s_law_sizes_any), mainGlobals, [], builtinsNs) : He.FnW) := c.f 26 (d := fd26)
  obtain ⟨oc24, od24, kV24, dc24, pm24, an24, cd24, ct24, sl24, l24, c24⟩ := DL.fn_ok0 v26 (c.b 129)
  have k24 : PySem.W.keepIn K (.ref (He.ga K "_law_sizes_any")) = true := (c.b 130)
  have a25 : PySem.W.nsIn K mainGlobals "_law_things_of" = some (some (.ref (He.ga K "_law_things_of"))) := of_decide_eq_true (c.b 131)
  have v27 : DL.fnV K (He.ga K "_law_things_of") = (some ("_law_things_of", "_law_things_of", (defArgs s_law_things_of), .stmts (defBody s_law_things_of), (defScope s_law_things_of), mainGlobals, [], builtinsNs) : He.FnW) := c.f 27 (d := fd27)
  obtain ⟨oc25, od25, kV25, dc25, pm25, an25, cd25, ct25, sl25, l25, c25⟩ := DL.fn_ok0 v27 (c.b 132)
  have k25 : PySem.W.keepIn K (.ref (He.ga K "_law_things_of")) = true := (c.b 133)
  have a26 : PySem.W.nsIn K mainGlobals "_law_few_right" = some (some (.ref (He.ga K "_law_few_right"))) := of_decide_eq_true (c.b 134)
  have v28 : DL.fnV K (He.ga K "_law_few_right") = (some ("_law_few_right", "_law_few_right", (defArgs s_law_few_right), .stmts (defBody s_law_few_right), (defScope s_law_few_right), mainGlobals, [], builtinsNs) : He.FnW) := c.f 28 (d := fd28)
  obtain ⟨oc26, od26, kV26, dc26, pm26, an26, cd26, ct26, sl26, l26, c26⟩ := DL.fn_ok0 v28 (c.b 135)
  have k26 : PySem.W.keepIn K (.ref (He.ga K "_law_few_right")) = true := (c.b 136)
  have a27 : PySem.W.findIn K (.ref (He.ga K "Packing")) "number" = some (some (.ref (He.ma K (He.ga K "Packing") "number"))) := of_decide_eq_true (c.b 137)
  have pg27 : PySem.W.specialIn K (.ref (He.ma K (He.ga K "Packing") "number")) "__get__" = some (some (.builtin "property.__get__")) := of_decide_eq_true (c.b 138)
  have pt27 : PySem.W.takesIn K (.ref (He.ma K (He.ga K "Packing") "number")) = some true := of_decide_eq_true (c.b 139)
  obtain ⟨rs27, pc27⟩ := DL.pf_ok (c.b 140)
  have v29 : DL.fnV K (DL.pfOf K (He.ma K (He.ga K "Packing") "number")) = (some ("number", "Packing.number", (defArgs s_Packing_number), .stmts (defBody s_Packing_number), (defScope s_Packing_number), mainGlobals, [], builtinsNs) : He.FnW) := c.f 29 (d := fd29)
  obtain ⟨oc27, od27, kV27, dc27, pm27, an27, cd27, ct27, sl27, l27, c27⟩ := DL.fn_ok0 v29 (c.b 141)
  have k27 : PySem.W.keepIn K (.ref (DL.pfOf K (He.ma K (He.ga K "Packing") "number"))) = true := (c.b 142)
  have a28 : PySem.W.findIn K (.ref (He.ga K "Packing")) "run_at" = some (some (.ref (He.ma K (He.ga K "Packing") "run_at"))) := of_decide_eq_true (c.b 143)
  have i28 : PySem.W.isFn K (.ref (He.ma K (He.ga K "Packing") "run_at")) = true := (c.b 144)
  have v30 : DL.fnV K (He.ma K (He.ga K "Packing") "run_at") = (some ("run_at", "Packing.run_at", (defArgs s_Packing_run_at), .stmts (defBody s_Packing_run_at), (defScope s_Packing_run_at), mainGlobals, [], builtinsNs) : He.FnW) := c.f 30 (d := fd30)
  obtain ⟨oc28, od28, kV28, dc28, pm28, an28, cd28, ct28, sl28, l28, c28⟩ := DL.fn_ok0 v30 (c.b 145)
  have k28 : PySem.W.keepIn K (.ref (He.ma K (He.ga K "Packing") "run_at")) = true := (c.b 146)
  have a29 : PySem.W.findIn K (.ref (He.ga K "Packing")) "room_at" = some (some (.ref (He.ma K (He.ga K "Packing") "room_at"))) := of_decide_eq_true (c.b 147)
  have i29 : PySem.W.isFn K (.ref (He.ma K (He.ga K "Packing") "room_at")) = true := (c.b 148)
  have v31 : DL.fnV K (He.ma K (He.ga K "Packing") "room_at") = (some ("room_at", "Packing.room_at", (defArgs s_Packing_room_at), .stmts (defBody s_Packing_room_at), (defScope s_Packing_room_at), mainGlobals, [], builtinsNs) : He.FnW) := c.f 31 (d := fd31)
  obtain ⟨oc29, od29, kV29, dc29, pm29, an29, cd29, ct29, sl29, l29, c29⟩ := DL.fn_ok0 v31 (c.b 149)
  have k29 : PySem.W.keepIn K (.ref (He.ma K (He.ga K "Packing") "room_at")) = true := (c.b 150)
  have a30 : PySem.W.nsIn K mainGlobals "_law_great_right" = some (some (.ref (He.ga K "_law_great_right"))) := of_decide_eq_true (c.b 151)
  have v32 : DL.fnV K (He.ga K "_law_great_right") = (some ("_law_great_right", "_law_great_right", (defArgs s_law_great_right), .stmts (defBody s_law_great_right), (defScope s_law_great_right), mainGlobals, [], builtinsNs) : He.FnW) := c.f 32 (d := fd32)
  obtain ⟨oc30, od30, kV30, dc30, pm30, an30, cd30, ct30, sl30, l30, c30⟩ := DL.fn_ok0 v32 (c.b 152)
  have k30 : PySem.W.keepIn K (.ref (He.ga K "_law_great_right")) = true := (c.b 153)
  have a31 : PySem.W.nsIn K mainGlobals "law" = some (some (.ref (He.ga K "law"))) := of_decide_eq_true (c.b 154)
  have v33 : DL.fnV K (He.ga K "law") = (some ("law", "law", (defArgs s_law), .stmts (defBody s_law), (defScope s_law), mainGlobals, [], builtinsNs) : He.FnW) := c.f 33 (d := fd33)
  obtain ⟨oc31, od31, kV31, dc31, pm31, an31, cd31, ct31, sl31, l31, c31⟩ := DL.fn_ok0 v33 (c.b 155)
  have k31 : PySem.W.keepIn K (.ref (He.ga K "law")) = true := (c.b 156)
  have z_abs : PySem.W.nsIn K mainGlobals "abs" = some none := of_decide_eq_true (c.b 157)
  have z_all : PySem.W.nsIn K mainGlobals "all" = some none := of_decide_eq_true (c.b 158)
  have z_bool : PySem.W.nsIn K mainGlobals "bool" = some none := of_decide_eq_true (c.b 159)
  have z_dict : PySem.W.nsIn K mainGlobals "dict" = some none := of_decide_eq_true (c.b 160)
  have z_enumerate : PySem.W.nsIn K mainGlobals "enumerate" = some none := of_decide_eq_true (c.b 161)
  have z_int : PySem.W.nsIn K mainGlobals "int" = some none := of_decide_eq_true (c.b 162)
  have z_isinstance : PySem.W.nsIn K mainGlobals "isinstance" = some none := of_decide_eq_true (c.b 163)
  have z_len : PySem.W.nsIn K mainGlobals "len" = some none := of_decide_eq_true (c.b 164)
  have z_list : PySem.W.nsIn K mainGlobals "list" = some none := of_decide_eq_true (c.b 165)
  have z_max : PySem.W.nsIn K mainGlobals "max" = some none := of_decide_eq_true (c.b 166)
  have z_min : PySem.W.nsIn K mainGlobals "min" = some none := of_decide_eq_true (c.b 167)
  have z_range : PySem.W.nsIn K mainGlobals "range" = some none := of_decide_eq_true (c.b 168)
  have z_set : PySem.W.nsIn K mainGlobals "set" = some none := of_decide_eq_true (c.b 169)
  have z_sorted : PySem.W.nsIn K mainGlobals "sorted" = some none := of_decide_eq_true (c.b 170)
  have z_sum : PySem.W.nsIn K mainGlobals "sum" = some none := of_decide_eq_true (c.b 171)
  have z_tuple : PySem.W.nsIn K mainGlobals "tuple" = some none := of_decide_eq_true (c.b 172)
  have z_zip : PySem.W.nsIn K mainGlobals "zip" = some none := of_decide_eq_true (c.b 173)
  obtain ⟨t_LIMIT, g_LIMIT⟩ := DL.ci_ok (c.b 174)
  obtain ⟨t_MAX_RUNS, g_MAX_RUNS⟩ := DL.ci_ok (c.b 175)
  obtain ⟨t_MAX_SIZES, g_MAX_SIZES⟩ := DL.ci_ok (c.b 176)
  obtain ⟨t_MAX_STORE, g_MAX_STORE⟩ := DL.ci_ok (c.b 177)
  exact all_mk X G hfa n_Packing s1_Packing s2_Packing s3_Packing s4_Packing t1_Packing t2_Packing t3_Packing t4_Packing t5_Packing u1_Packing u2_Packing u3_Packing u4_Packing ki_Packing kk2 kk3 kk4 kk5 n_InvalidNumber xc_InvalidNumber xb_InvalidNumber xsa_InvalidNumber xga_InvalidNumber xgg_InvalidNumber xno_InvalidNumber xi_InvalidNumber xt_InvalidNumber xk_InvalidNumber xe_InvalidNumber xy_InvalidNumber xh_InvalidNumber xl_InvalidNumber xcd_InvalidNumber n_InvalidPacking xi_InvalidPacking kp_InvalidPacking sb_InvalidPacking ty_InvalidPacking n_NoRoom xc_NoRoom xb_NoRoom xsa_NoRoom xga_NoRoom xgg_NoRoom xno_NoRoom xi_NoRoom xt_NoRoom xk_NoRoom xe_NoRoom xy_NoRoom xh_NoRoom xl_NoRoom xcd_NoRoom a0 l0 c0 k0 a1 l1 c1 k1 a2 l2 c2 k2 a3 l3 c3 k3 a4 l4 c4 k4 a5 l5 c5 k5 a6 l6 c6 k6 a7 l7 c7 k7 a8 i8 mi_Packing mk_Packing l8 c8 k8 a9 i9 l9 c9 k9 a10 l10 c10 k10 a11 l11 c11 k11 a12 i12 l12 c12 k12 a13 l13 c13 k13 a14 l14 c14 k14 a15 l15 c15 k15 a16 l16 c16 k16 a17 l17 c17 k17 a18 l18 c18 k18 a19 l19 c19 k19 a20 i20 l20 c20 k20 a21 l21 c21 k21 a22 l22 c22 k22 a23 l23 c23 k23 a24 l24 c24 k24 a25 l25 c25 k25 a26 l26 c26 k26 a27 pg27 pt27 pc27 l27 c27 k27 a28 i28 l28 c28 k28 a29 i29 l29 c29 k29 a30 l30 c30 k30 a31 l31 c31 k31 z_abs z_all z_bool z_dict z_enumerate z_int z_isinstance z_len z_list z_max z_min z_range z_set z_sorted z_sum z_tuple z_zip g_LIMIT g_MAX_RUNS g_MAX_SIZES g_MAX_STORE
end DL.Law
open PySem PySem.W PyProof.Rows
set_option maxRecDepth 100000 in
set_option maxHeartbeats 0 in
theorem PySem.Challenge.cw_chainpacks_k23_whole_things_in_packings_holds : PySem.Challenge.rw_chainpacks_k23_whole_things_in_packings.Holds := by
  w_on; o_law
  refine HandSHeadRun.head_any (r := PySem.W.OpenLaw.row PySem.Challenge.rw_chainpacks_k23_whole_things_in_packings) (q := PySem.W.view (PySem.W.OpenLaw.row PySem.Challenge.rw_chainpacks_k23_whole_things_in_packings).prog [38]) (H := DL.Law.hk) (ob := DL.obM 0 DL.Law.FNS DL.Law.EX) (M := 40000) (loose := DL.Law.loose) (d := HandSHeadRun.topDef (PySem.W.OpenLaw.row PySem.Challenge.rw_chainpacks_k23_whole_things_in_packings).prog 38) (kwd := []) DL.obM_eq
    (by kernel_rfl) (fun s => by kernel_rfl) DL.Law.run (by kernel_rfl) (by kernel_rfl) (by kernel_rfl) (by rfl) (by first | assumption | decide +kernel) (by decide +kernel) ⟨rfl, rfl, rfl, rfl, rfl, by decide +kernel⟩ ?hw ?hc
  case hw => w_witness2
  case hc =>
    letI : DL.TabsC := ⟨[]⟩
    refine DL.walkDE (l := PySem.Challenge.rw_chainpacks_k23_whole_things_in_packings) (m := DL.Law.m_law) (k := 10) rfl (by decide +kernel) rfl (by kernel_rfl) ⟨rfl, by decide, by decide⟩ DL.Law.law_true ?F
    intro w mg fa h Y G hmg0
    obtain ⟨K, KX, c⟩ := Y
    have hmg : mg ("law" : PySem.Str) = some (.ref fa) := by
      have e : (HandSHeadRun.topDef (PySem.W.OpenLaw.row PySem.Challenge.rw_chainpacks_k23_whole_things_in_packings).prog 38).name = ("law" : PySem.Str) := by kernel_rfl
      rw [← e]
      exact hmg0
    exact ⟨K, KX, DL.Law.head_mk KX G hmg c⟩
#print axioms PySem.Challenge.cw_chainpacks_k23_whole_things_in_packings_holds
