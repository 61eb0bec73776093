import PyProof.Rows.All
import Wide.All
import OpenK.AllK
import Wide.FinOn
import HandS.Base
import HandS.Call
import HandS.List
import HandS.Comp
import HandS.Words
import HandS.Exc
import HandS.Lambda
import HandS.ExcOwn
import HandS.Iter
import HandS.Zip
import HandS.Dict
import HandS.WordsExc
import HandS.Star
import HandS.TupAny
import HandS.Text
import HandS.Wide
import HandS.IsInst
import HandS.SortInts
import HandS.Deep
import HandS.RaiseMore
import HandS.Style
import PyProof.ReprRoads
import HandS.Ends
import HandS.Conv
import HandS.Strs
import HandS.SetFor
import KE.KRevSl
import KE.GoesEnum
import HandS.TupLe
import KE.DataMinKey
import HandS.Property
import HandS.ExcField
import PyProof.ExcBaseAll.IndexError
import PyProof.ExcBaseAll.OverflowError
import PyProof.ExcBaseAll.ArithmeticError
import PyProof.ExcBaseAll.LookupError
import PyProof.ExcBaseAll.RuntimeError
import HandS.DictComp
import HandS.ListItems
import HandS.Keys
import KE.KCallOwn
import HandS.OwnEq
import KE.KOpsOwn
import HandS.SlotsOwn
import HandS.Defaults
import HandS.FStr
import KE.GoesMore
import PyProof.EnumFor
import HandS.TupSets
import HandS.EndTab
import PySem.Challenge.RW_chainpacks_k18_errors_of_stores
set_option Elab.async false
set_option linter.all false
set_option maxRecDepth 100000
set_option maxHeartbeats 4000000
/-! DL1: the data layer. Values as trees (D), what stands for them in the heap (Rep), a frame's names as data (EnvD), the judgements DE, DT, DS. -/
namespace DL
open PySem PySem.Spec PyProof.Rows L2

def isTbl : HO → Bool
  | .tbl _ => true
  | _ => false
/-- what is tracked stays, tables of code objects apart -/
structure Grow (H H' : Hp) : Prop where
  get : ∀ b o, H b = some o → isTbl o = false → H' b = some o
/-- what is neither a table nor a code object -/
def Plain (o : HO) : Prop := isTbl o = false ∧ ∀ c q, o ≠ LamX.CodeO c q
def isExt : HO → Bool
  | .ext _ => true
  | _ => false
theorem plain_of {o : HO} (h : isTbl o = false := by rfl) (n : isExt o = false := by rfl) : Plain o := ⟨h, fun c q z => by rw [z] at n; cases n⟩

inductive D where
  | none | bool (b : Bool) | int (i : Int) | str (s : Str) | list (xs : List D) | tup (xs : List D)
  | dict (kvs : List (Key × D)) | dice | script (ns : List Int) | opq (a : Addr) (Hc : Hp) | ty (n : String)
  | fn (n : Str)
  | obj (n : Str) (fs : List (Str × D))
  | exc (a dd : Addr) (n f : Str) (d : D)

structure Er where
  cls : Str
  arg : Option (Str × D)

/-- the dice: a list of three ints, whatever they are -/
def DiceH (a : Addr) (h : Heap) : Prop := ∃ (i j k : Int) (t u w : Tok) (n : Nat), h.get? a = some { cls := .type "list", data := .seq #[.int i t, .int j u, .int k w] n }
def diceO (a : Addr) : HO := .ext (DiceH a)

mutual
inductive Rep (K : PySem.W.Frag) (H : Hp) : V → D → Prop
  | non : Rep K H .non .none
  | bool (b : Bool) : Rep K H (.bl b) (.bool b)
  | int (i : Int) : Rep K H (.int i) (.int i)
  | str (x : Str) : Rep K H (.str x) (.str x)
  | list {a : Addr} {xs : List V} {ds : List D} : H a = some (.lst xs) → xs.length ≤ sizeLine → Reps K H xs ds → Rep K H (.ref a) (.list ds)
  | tup {a : Addr} {xs : List V} {ds : List D} : SqT K H a xs → xs.length ≤ sizeLine → Reps K H xs ds → Rep K H (.ref a) (.tup ds)
  | dict {a : Addr} {od : Obj} {kvs : List (Key × V)} {ds : List (Key × D)} : H a = some (.frz od (.dK kvs)) → kvs.length ≤ sizeLine → RepKs K H kvs ds → Rep K H (.ref a) (.dict ds)
  | obj {n : Str} {a C dx : Addr} {fs : List (Str × V)} {ds : List (Str × D)} : PySem.W.nsIn K mainGlobals n = some (some (.ref C)) → H a = some (.ins C dx fs) → RepFs K H fs ds → Rep K H (.ref a) (.obj n ds)
  | dice {a : Addr} : H a = some (diceO a) → Rep K H (.ref a) .dice
  | script {a : Addr} {ns : List Int} : SqL K H a (ns.map V.int) → ns.length ≤ sizeLine → Rep K H (.ref a) (.script ns)
  | opq {a : Addr} {Hc : Hp} : Grow Hc H → Rep K H (.ref a) (.opq a Hc)
  | ty (n : String) : Rep K H (.ty n) (.ty n)
  | fn {n : Str} {a : Addr} : PySem.W.nsIn K mainGlobals n = some (some (.ref a)) → Rep K H (.ref a) (.fn n)
  | exc {a dd C : Addr} {n f : Str} {v : V} {d : D} : PySem.W.nsIn K mainGlobals n = some (some (.ref C)) → H dd = some (.xd [(f, v)]) → Rep K H v d → Rep K H (.ref a) (.exc a dd n f d)
inductive Reps (K : PySem.W.Frag) (H : Hp) : List V → List D → Prop
  | nil : Reps K H [] []
  | cons {v : V} {vs : List V} {d : D} {ds : List D} : Rep K H v d → Reps K H vs ds → Reps K H (v :: vs) (d :: ds)
inductive RepKs (K : PySem.W.Frag) (H : Hp) : List (Key × V) → List (Key × D) → Prop
  | nil : RepKs K H [] []
  | cons {k : Key} {v : V} {vs : List (Key × V)} {d : D} {ds : List (Key × D)} : Rep K H v d → RepKs K H vs ds → RepKs K H ((k, v) :: vs) ((k, d) :: ds)
inductive RepFs (K : PySem.W.Frag) (H : Hp) : List (Str × V) → List (Str × D) → Prop
  | nil : RepFs K H [] []
  | cons {f : Str} {v : V} {vs : List (Str × V)} {d : D} {ds : List (Str × D)} : Rep K H v d → RepFs K H vs ds → RepFs K H ((f, v) :: vs) ((f, d) :: ds)
end

theorem Grow.at {H H' : Hp} (e : Grow H H') (b : Addr) (o : HO) (h : H b = some o) (n : isTbl o = false := by rfl) : H' b = some o := e.get b o h n
instance {H H' : Hp} : CoeFun (Grow H H') (fun _ => ∀ b o, H b = some o → (n : isTbl o = false := by rfl) → H' b = some o) := ⟨@Grow.at H H'⟩
theorem Grow.refl (H : Hp) : Grow H H := ⟨fun _ _ h _ => h⟩
theorem Grow.trans {H H1 H2 : Hp} (a : Grow H H1) (b : Grow H1 H2) : Grow H H2 := ⟨fun c o h n => b.get c o (a.get c o h n) n⟩
theorem Grow.seq {K : PySem.W.Frag} {H H' : Hp} {a : Addr} {xs : List V} (e : Grow H H') (h : SqL K H a xs) : SqL K H' a xs := by
  rcases h with (h | ⟨o, h⟩) | h
  · exact .inl (.inl (e _ _ h))
  · exact .inl (.inr ⟨o, e _ _ h⟩)
  · exact .inr h
class TabsC where
  T : List (Addr × Str)
variable [TabsC]
/-- the same, and tables keep what they tell -/
structure Same (H H' : Hp) : Prop where
  ob : Grow H H'
  tb : LamX.Tabs TabsC.T H → LamX.Tabs TabsC.T H'
  ne : ∀ b, H' b = none → H b = none
theorem Same.at {H H' : Hp} (e : Same H H') (b : Addr) (o : HO) (h : H b = some o) (n : isTbl o = false := by rfl) : H' b = some o := e.ob.get b o h n
instance {H H' : Hp} : CoeFun (Same H H') (fun _ => ∀ b o, H b = some o → (n : isTbl o = false := by rfl) → H' b = some o) := ⟨@Same.at _ H H'⟩
instance {H H' : Hp} : Coe (Same H H') (Grow H H') := ⟨Same.ob⟩
theorem Same.refl (H : Hp) : Same H H := ⟨Grow.refl H, fun h => h, fun _ h => h⟩
theorem Same.trans {H H1 H2 : Hp} (a : Same H H1) (b : Same H1 H2) : Same H H2 := ⟨a.ob.trans b.ob, fun h => b.tb (a.tb h), fun c h => a.ne c (b.ne c h)⟩
theorem Same.free {H H' : Hp} (e : Same H H') {l : Addr} (h : H' l = Option.none) : H l = Option.none := e.ne l h
theorem Same.seq {K : PySem.W.Frag} {H H' : Hp} {a : Addr} {xs : List V} (e : Same H H') (h : SqL K H a xs) : SqL K H' a xs := e.ob.seq h
theorem Same.of {H H' : Hp} (e : ∀ b o, H b = some o → H' b = some o) : Same H H' := ⟨⟨fun b o h _ => e b o h⟩, fun h p hp => (h p hp).ext e, fun b h => by
  cases q : H b with
  | none => rfl
  | some o => rw [e b o q] at h; cases h⟩
theorem TabS.put {H : Hp} {a P : Addr} {q : Str} {o o' : HO} (h : H a = some o) (n : isTbl o = false) (m : ∀ c q, o ≠ LamX.CodeO c q) (t : LamX.TabS H P q) : LamX.TabS (upd H a o') P q := by
  obtain ⟨ps, h1, h2, h3⟩ := t
  have nP : P ≠ a := fun z => by
    rw [z, h] at h1
    cases h1
    cases n
  refine ⟨ps, by rw [upd_ne nP]; exact h1, h2, fun pos cv hc => ?_⟩
  obtain ⟨c, e1, e2⟩ := h3 pos cv hc
  refine ⟨c, e1, ?_⟩
  rw [upd_ne fun z => ?_]
  · exact e2
  · rw [z, h] at e2
    exact m _ _ (Option.some.inj e2)
theorem Same.put {H : Hp} {a : Addr} {o o' : HO} {H0 : Hp} (e : Same H0 H) (h0 : H0 a = none) (h : H a = some o) (n : isTbl o = false := by rfl) (m : ∀ c q, o ≠ LamX.CodeO c q := by intro c q z; unfold LamX.CodeO at z; cases z) : Same H0 (upd H a o') :=
  ⟨⟨fun b u q hb => by rw [upd_ne (ne_of_none q h0)]; exact e.ob.get b u q hb⟩, fun t p hp => TabS.put h n m (e.tb t p hp), fun b z => by
    by_cases hb : b = a
    · rw [hb]; exact h0
    · rw [upd_ne hb] at z; exact e.ne b z⟩

theorem sameT {K : PySem.W.Frag} {H H' : Hp} {a : Addr} {xs : List V} (e : Grow H H') (h : SqT K H a xs) : SqT K H' a xs := by
  rcases h with (h | ⟨o, h⟩) | h
  · exact .inl (.inl (e _ _ h))
  · exact .inl (.inr ⟨o, e _ _ h⟩)
  · exact .inr h

section
variable {K : PySem.W.Frag} {H H' : Hp}
theorem rdMono {H H' : Hp} {a : Addr} {u : HO} (e : Grow H H') (h : Rd H a u) (n : isTbl u = false := by rfl) : Rd H' a u := by
  rcases h with h | ⟨o, h⟩
  · exact .inl (e _ _ h n)
  · exact .inr ⟨o, e _ _ h⟩
mutual
theorem Rep.mono (e : Grow H H') : ∀ {v : V} {d : D}, Rep K H v d → Rep K H' v d
  | _, _, .non => .non
  | _, _, .bool b => .bool b
  | _, _, .int i => .int i
  | _, _, .str x => .str x
  | _, _, .list h l r => .list (e _ _ h) l (Reps.mono e r)
  | _, _, .tup h l r => .tup (sameT e h) l (Reps.mono e r)
  | _, _, .dict h l r => .dict (e _ _ h) l (RepKs.mono e r)
  | _, _, .obj c h r => .obj c (e _ _ h) (RepFs.mono e r)
  | _, _, .dice h => .dice (e _ _ h)
  | _, _, .script h l => .script (e.seq h) l
  | _, _, .opq h => .opq (h.trans e)
  | _, _, .ty n => .ty n
  | _, _, .fn h => .fn h
  | _, _, .exc c h r => .exc c (e _ _ h) (Rep.mono e r)
theorem Reps.mono (e : Grow H H') : ∀ {vs : List V} {ds : List D}, Reps K H vs ds → Reps K H' vs ds
  | _, _, .nil => .nil
  | _, _, .cons h r => .cons (Rep.mono e h) (Reps.mono e r)
theorem RepKs.mono (e : Grow H H') : ∀ {vs : List (Key × V)} {ds : List (Key × D)}, RepKs K H vs ds → RepKs K H' vs ds
  | _, _, .nil => .nil
  | _, _, .cons h r => .cons (Rep.mono e h) (RepKs.mono e r)
theorem RepFs.mono (e : Grow H H') : ∀ {vs : List (Str × V)} {ds : List (Str × D)}, RepFs K H vs ds → RepFs K H' vs ds
  | _, _, .nil => .nil
  | _, _, .cons h r => .cons (Rep.mono e h) (RepFs.mono e r)
end
theorem Reps.length : ∀ {vs : List V} {ds : List D}, Reps K H vs ds → vs.length = ds.length
  | _, _, .nil => rfl
  | _, _, .cons _ r => by rw [List.length_cons, List.length_cons, Reps.length r]
theorem RepKs.length : ∀ {vs : List (Key × V)} {ds : List (Key × D)}, RepKs K H vs ds → vs.length = ds.length
  | _, _, .nil => rfl
  | _, _, .cons _ r => by rw [List.length_cons, List.length_cons, RepKs.length r]
theorem Reps.get : ∀ {vs : List V} {ds : List D} {i : Nat} {v : V}, Reps K H vs ds → vs[i]? = some v → ∃ d, ds[i]? = some d ∧ Rep K H v d
  | _, _, _, _, .nil, e => by simp at e
  | _, _, 0, _, .cons r _, e => by simp at e; subst e; exact ⟨_, rfl, r⟩
  | _, _, i + 1, x, .cons _ t, e => by
    obtain ⟨d, h1, h2⟩ := Reps.get (i := i) (v := x) t (by simpa using e)
    exact ⟨d, by simpa using h1, h2⟩
theorem Reps.get' {vs : List V} {ds : List D} {i : Nat} {d : D} (r : Reps K H vs ds) (e : ds[i]? = some d) : ∃ v, vs[i]? = some v ∧ Rep K H v d := by
  have hi : i < vs.length := by
    rw [r.length]
    exact (List.getElem?_eq_some_iff.mp e).1
  have ev : vs[i]? = some vs[i] := List.getElem?_eq_getElem hi
  obtain ⟨d', h1, h2⟩ := r.get ev
  rw [e] at h1
  cases h1
  exact ⟨_, ev, h2⟩
theorem Reps.append : ∀ {vs ws : List V} {ds es : List D}, Reps K H vs ds → Reps K H ws es → Reps K H (vs ++ ws) (ds ++ es)
  | _, _, _, _, .nil, s => s
  | _, _, _, _, .cons r t, s => .cons r (Reps.append t s)
theorem Reps.take : ∀ {vs : List V} {ds : List D} (n : Nat), Reps K H vs ds → Reps K H (vs.take n) (ds.take n)
  | _, _, 0, _ => .nil
  | _, _, _ + 1, .nil => .nil
  | _, _, n + 1, .cons r t => .cons r (Reps.take n t)
theorem Reps.drop : ∀ {vs : List V} {ds : List D} (n : Nat), Reps K H vs ds → Reps K H (vs.drop n) (ds.drop n)
  | _, _, 0, r => r
  | _, _, _ + 1, .nil => .nil
  | _, _, n + 1, .cons _ t => Reps.drop n t
theorem Reps.reverse {vs : List V} {ds : List D} (r : Reps K H vs ds) : Reps K H vs.reverse ds.reverse := by
  have go : ∀ {vs : List V} {ds : List D}, Reps K H vs ds → Reps K H vs.reverse ds.reverse := by
    intro vs
    induction vs with
    | nil => intro ds r; cases r; exact .nil
    | cons v vs ih =>
      intro ds r
      cases r with
      | cons r t =>
        rw [List.reverse_cons, List.reverse_cons]
        exact (ih t).append (.cons r .nil)
  exact go r
theorem Reps.ints : ∀ (ns : List Int), Reps K H (ns.map V.int) (ns.map D.int)
  | [] => .nil
  | n :: ns => .cons (.int n) (Reps.ints ns)
theorem Reps.of_ints : ∀ {vs : List V} {ns : List Int}, Reps K H vs (ns.map D.int) → vs = ns.map V.int
  | _, [], r => by cases r; rfl
  | _, n :: ns, r => by
    cases r with
    | cons h t =>
      cases h
      rw [Reps.of_ints t]
      rfl
theorem Reps.of_bools : ∀ {vs : List V} {ns : List Bool}, Reps K H vs (ns.map D.bool) → vs = ns.map V.bl
  | _, [], r => by cases r; rfl
  | _, n :: ns, r => by
    cases r with
    | cons h t =>
      cases h
      rw [Reps.of_bools t]
      rfl
theorem Reps.of_strs : ∀ {vs : List V} {ns : List Str}, Reps K H vs (ns.map D.str) → vs = ns.map V.str
  | _, [], r => by cases r; rfl
  | _, n :: ns, r => by
    cases r with
    | cons h t =>
      cases h
      rw [Reps.of_strs t]
      rfl
end

/-! ### heaps without some cells -/
def sub (H : Hp) (ls : List Addr) : Hp := fun a => if a ∈ ls then none else H a
section
variable {H H' : Hp} {ls ls' : List Addr} {a : Addr} {o : HO}
theorem sub_in (h : a ∈ ls) : sub H ls a = none := if_pos h
theorem sub_out (h : a ∉ ls) : sub H ls a = H a := if_neg h
theorem sub_le : Grow (sub H ls) H := ⟨fun b o h _ => by
  by_cases hb : b ∈ ls
  · rw [sub_in hb] at h; cases h
  · rw [sub_out hb] at h; exact h⟩
theorem sub_same (e : Grow H H') : Grow (sub H ls) (sub H' ls) := ⟨fun b o h hn => by
  by_cases hb : b ∈ ls
  · rw [sub_in hb] at h; cases h
  · rw [sub_out hb] at h ⊢; exact e.get b o h hn⟩
theorem sub_less (e : ∀ a, a ∈ ls' → a ∈ ls) : Grow (sub H ls) (sub H ls') := ⟨fun b o h _ => by
  by_cases hb : b ∈ ls
  · rw [sub_in hb] at h; cases h
  · rw [sub_out hb] at h
    rw [sub_out fun z => hb (e b z)]
    exact h⟩
theorem sub_upd (h : a ∈ ls) : sub (upd H a o) ls = sub H ls := by
  funext b
  unfold sub
  by_cases hb : b ∈ ls
  · rw [if_pos hb, if_pos hb]
  · rw [if_neg hb, if_neg hb, upd_ne fun z => hb (by rw [z]; exact h)]
theorem same_upd (h : H a = none) : Same H (upd H a o) := Same.of fun b u e => by
  rw [upd_ne (ne_of_none e h)]
  exact e
/-- a new cell set aside -/
theorem sub_fresh (h : H a = none) (e : Same H H') : Grow (sub H ls) (sub H' (a :: ls)) := ⟨fun b o hb hn => by
  have h1 : b ∉ ls := fun z => by rw [sub_in z] at hb; cases hb
  rw [sub_out h1] at hb
  rw [sub_out fun z => (List.mem_cons.mp z).elim (ne_of_none hb h) h1]
  exact e.ob.get b o hb hn⟩
end

/-! ### what a value is in a frame that owns cells -/
inductive RV (K : PySem.W.Frag) (fo ls : List Addr) (H : Hp) : Bool → V → D → Prop
  | cl {b : Bool} {v : V} {d : D} : Rep K (sub H ls) v d → RV K fo ls H b v d
  | ml {a : Addr} {xs : List V} {ds : List D} : a ∉ fo → H a = some (.lst xs) → xs.length ≤ sizeLine → Reps K (sub H ls) xs ds → RV K fo ls H true (.ref a) (.list ds)
  | md {a : Addr} {kvs : List (Key × V)} {ds : List (Key × D)} : a ∉ fo → H a = some (.dK kvs) → kvs.length ≤ sizeLine → RepKs K (sub H ls) kvs ds → RV K fo ls H true (.ref a) (.dict ds)
  | mo {a C dx : Addr} {n : Str} {fs : List (Str × V)} {ds : List (Str × D)} : a ∉ fo → PySem.W.nsIn K mainGlobals n = some (some (.ref C)) → H a = some (.ins C dx fs) → RepFs K (sub H ls) fs ds → RV K fo ls H true (.ref a) (.obj n ds)
/-- a new container of one's own at p -/
inductive FV (K : PySem.W.Frag) (ls : List Addr) (H : Hp) (p : Addr) : D → Prop
  | l {xs : List V} {ds : List D} : H p = some (.lst xs) → xs.length ≤ sizeLine → Reps K (sub H ls) xs ds → FV K ls H p (.list ds)
  | d {kvs : List (Key × V)} {ds : List (Key × D)} : H p = some (.dK kvs) → kvs.length ≤ sizeLine → RepKs K (sub H ls) kvs ds → FV K ls H p (.dict ds)
  | o {C dx : Addr} {n : Str} {fs : List (Str × V)} {ds : List (Str × D)} : PySem.W.nsIn K mainGlobals n = some (some (.ref C)) → H p = some (.ins C dx fs) → RepFs K (sub H ls) fs ds → FV K ls H p (.obj n ds)
section
variable {K : PySem.W.Frag} {fo ls : List Addr} {H H' : Hp} {b : Bool} {v : V} {d : D}
theorem RV.clean (r : RV K fo ls H false v d) : Rep K (sub H ls) v d := by
  cases r with
  | cl r => exact r
theorem RV.up (r : RV K fo ls H b v d) : RV K fo ls H true v d := by
  cases r with
  | cl r => exact .cl r
  | ml n a b c => exact .ml n a b c
  | md n a b c => exact .md n a b c
  | mo n a b c => exact .mo n a b c
/-- a dict of our own that may still be written -/
def isDic : D → Bool
  | .dict _ => true
  | _ => false
theorem RV.rep (r : RV K fo ls H b v d) (h : isDic d = false) : Rep K H v d := by
  cases r with
  | cl r => exact r.mono sub_le
  | ml n a b c => exact .list a b (c.mono sub_le)
  | md n a b c => cases h
  | mo n a b c => exact .obj a b (c.mono sub_le)
theorem RV.mono (e : Grow H H') (r : RV K fo ls H b v d) : RV K fo ls H' b v d := by
  cases r with
  | cl r => exact .cl (r.mono (sub_same e))
  | ml n a b c => exact .ml n (e _ _ a) b (c.mono (sub_same e))
  | md n a b c => exact .md n (e _ _ a) b (c.mono (sub_same e))
  | mo n a b c => exact .mo n a (e _ _ b) (c.mono (sub_same e))
theorem RV.list {ds : List D} (r : RV K fo ls H b v (.list ds)) : ∃ a xs, v = .ref a ∧ H a = some (.lst xs) ∧ xs.length ≤ sizeLine ∧ Reps K (sub H ls) xs ds := by
  cases r with
  | cl r =>
    cases r with
    | list h l r => exact ⟨_, _, rfl, sub_le _ _ h, l, r⟩
  | ml n h l r => exact ⟨_, _, rfl, h, l, r⟩
theorem RV.tup {ds : List D} (r : RV K fo ls H b v (.tup ds)) : ∃ a xs, v = .ref a ∧ SqT K H a xs ∧ xs.length ≤ sizeLine ∧ Reps K (sub H ls) xs ds := by
  cases r with
  | cl r =>
    cases r with
    | tup h l r => exact ⟨_, _, rfl, sameT sub_le h, l, r⟩
theorem RV.dict {ds : List (Key × D)} (r : RV K fo ls H b v (.dict ds)) : ∃ a xs, v = .ref a ∧ Rd H a (.dK xs) ∧ xs.length ≤ sizeLine ∧ RepKs K (sub H ls) xs ds := by
  cases r with
  | cl r =>
    cases r with
    | dict h l r => exact ⟨_, _, rfl, .inr ⟨_, sub_le _ _ h⟩, l, r⟩
  | md n h l r => exact ⟨_, _, rfl, .inl h, l, r⟩
end

/-! ### names as data -/
inductive DV where
  | u | v (d : D) | m (d : D) | s (d : D)
structure Fm where
  ls0 : List Addr
  H0 : Hp
  Hi : Hp
def SlotR (K : PySem.W.Frag) (fo ls own : List Addr) (H : Hp) (s : Option V) : DV → Prop
  | .u => True
  | .v d => ∃ x, s = some x ∧ Rep K (sub H ls) x d
  | .m d => ∃ a, s = some (.ref a) ∧ a ∈ own ∧ RV K fo ls H true (.ref a) d
  | .s d => ∃ a C dx n fs ds, s = some (.ref a) ∧ a ∈ fo ∧ d = .obj n ds ∧ PySem.W.nsIn K mainGlobals n = some (some (.ref C)) ∧ H a = some (.ins C dx fs) ∧ RepFs K (sub H ls) fs ds
structure EnvD (K : PySem.W.Frag) (F : Fm) (own : List Addr) (σ : L2.St) (δ : List DV) (H : Hp) : Prop where
  same : Same F.H0 H
  imm : Grow F.Hi (sub H (F.ls0 ++ own))
  tabs : LamX.Tabs TabsC.T H
  new : ∀ l, l ∈ own → F.H0 l = none
  trk : ∀ l, l ∈ F.ls0 ++ own → ∃ o, H l = some o ∧ Plain o
  sep : ∀ l, l ∈ own → l ∉ F.ls0
  len : σ.length = δ.length
  slot : ∀ (i : Nat) (dv : DV), δ[i]? = some dv → ∃ s, σ[i]? = some s ∧ SlotR K F.ls0 (F.ls0 ++ own) own H s dv
  lent : ∀ (i : Nat) (d : D) (a : Addr), δ[i]? = some (.s d) → σ[i]? = some (some (.ref a)) → F.H0 a = none
  alone : ∀ (i j : Nat) (di dj : D) (a : Addr), δ[i]? = some (.s di) → δ[j]? = some (.s dj) → σ[i]? = some (some (.ref a)) → σ[j]? = some (some (.ref a)) → i = j
  apart : ∀ (i j : Nat) (di dj : D) (a : Addr), δ[i]? = some (.m di) → δ[j]? = some (.m dj) → σ[i]? = some (some (.ref a)) → σ[j]? = some (some (.ref a)) → i = j
theorem SlotR.mono {K : PySem.W.Frag} {fo ls own : List Addr} {H H' : Hp} {s : Option V} {dv : DV} (e : Grow H H') (h : SlotR K fo ls own H s dv) : SlotR K fo ls own H' s dv := by
  cases dv with
  | u => trivial
  | v d => obtain ⟨x, e1, r⟩ := h; exact ⟨x, e1, r.mono (sub_same e)⟩
  | m d => obtain ⟨a, e1, h1, r⟩ := h; exact ⟨a, e1, h1, r.mono e⟩
  | s d => obtain ⟨a, C, dx, n, fs, ds, e1, h1, h2, h3, h4, r⟩ := h; exact ⟨a, C, dx, n, fs, ds, e1, h1, h2, h3, e _ _ h4, r.mono (sub_same e)⟩
section
variable {K : PySem.W.Frag} {F : Fm} {own : List Addr} {σ : L2.St} {δ : List DV} {H H' : Hp}
theorem EnvD.grow (E : EnvD K F own σ δ H) (e : Same H H') : EnvD K F own σ δ H' :=
  ⟨E.same.trans e, E.imm.trans (sub_same e), e.tb E.tabs, E.new, fun l h => by
    obtain ⟨o, q, n⟩ := E.trk l h
    exact ⟨o, e _ _ q n.1, n⟩, E.sep, E.len, fun i dv h => let ⟨s, q, r⟩ := E.slot i dv h; ⟨s, q, r.mono e⟩, E.lent, E.alone, E.apart⟩
end

/-! ### errors as data -/
/-- the exception that lies: its class, its one field -/
def RepEr (K : PySem.W.Frag) (ls : List Addr) (H : Hp) (cls : Value) (dd : Option Addr) (er : Er) : Prop :=
  (∃ C, PySem.W.nsIn K mainGlobals er.cls = some (some (.ref C)) ∧ cls = .ref C) ∧ ∀ f d, er.arg = some (f, d) → ∃ dx v, dd = some dx ∧ sub H ls dx = some (.xd [(f, v)]) ∧ Rep K (sub H ls) v d
theorem RepEr.less {K : PySem.W.Frag} {ls ls' : List Addr} {H : Hp} {cls : Value} {dd : Option Addr} {er : Er} (h : RepEr K ls H cls dd er) (e : ∀ a, a ∈ ls' → a ∈ ls) : RepEr K ls' H cls dd er :=
  ⟨h.1, fun f d q => let ⟨dx, v, a, b, c⟩ := h.2 f d q; ⟨dx, v, a, (sub_less e) _ _ b, c.mono (sub_less e)⟩⟩
abbrev NoE : Er → Prop := fun _ => False
abbrev NoW : WX := fun _ _ _ _ => False
/-- an error that is wished for is taken -/
def Pass (K : PySem.W.Frag) (W : WX) (ls : List Addr) (σ : L2.St) (H : Hp) (EK : Er → Prop) : Prop := ∀ er cls dd H', EK er → Same H H' → RepEr K ls H' cls dd er → W cls dd σ H'
theorem Pass.on {K : PySem.W.Frag} {W : WX} {ls : List Addr} {σ : L2.St} {H H' : Hp} {EK : Er → Prop} (h : Pass K W ls σ H EK) (e : Same H H') : Pass K W ls σ H' EK := fun er cls dd H2 k q r => h er cls dd H2 k (e.trans q) r

/-! ### the judgements -/
/-- an expression as data: from the names, what is wanted of its value, of an error -/
abbrev TM := List DV → (D → Prop) → (Er → Prop) → Prop
abbrev BM := List DV → (Bool → Prop) → (Er → Prop) → Prop
abbrev LM := List DV → (List D → Prop) → (Er → Prop) → Prop
inductive RVs (K : PySem.W.Frag) (fo ls : List Addr) (H : Hp) (b : Bool) : List V → List D → Prop
  | nil : RVs K fo ls H b [] []
  | cons {v : V} {vs : List V} {d : D} {ds : List D} : RV K fo ls H b v d → RVs K fo ls H b vs ds → RVs K fo ls H b (v :: vs) (d :: ds)
theorem RVs.mono {K : PySem.W.Frag} {fo ls : List Addr} {H H' : Hp} {b : Bool} (e : Same H H') : ∀ {vs : List V} {ds : List D}, RVs K fo ls H b vs ds → RVs K fo ls H' b vs ds
  | _, _, .nil => .nil
  | _, _, .cons r t => .cons (r.mono e) (RVs.mono e t)
theorem RVs.clean {K : PySem.W.Frag} {fo ls : List Addr} {H : Hp} : ∀ {vs : List V} {ds : List D}, RVs K fo ls H false vs ds → Reps K (sub H ls) vs ds
  | _, _, .nil => .nil
  | _, _, .cons r t => .cons r.clean (RVs.clean t)
theorem RVs.up {K : PySem.W.Frag} {fo ls : List Addr} {H : Hp} {b : Bool} : ∀ {vs : List V} {ds : List D}, RVs K fo ls H b vs ds → RVs K fo ls H true vs ds
  | _, _, .nil => .nil
  | _, _, .cons r t => .cons r.up (RVs.up t)
theorem RVs.length {K : PySem.W.Frag} {fo ls : List Addr} {H : Hp} {b : Bool} : ∀ {vs : List V} {ds : List D}, RVs K fo ls H b vs ds → vs.length = ds.length
  | _, _, .nil => rfl
  | _, _, .cons _ t => by rw [List.length_cons, List.length_cons, RVs.length t]
structure At (K : PySem.W.Frag) (W : WX) (σ : L2.St) (H : Hp) (F : Fm) (own : List Addr) (δ : List DV) (EK : Er → Prop) : Prop where
  env : EnvD K F own σ δ H
  pass : Pass K W (F.ls0 ++ own) σ H EK
theorem At.on {K : PySem.W.Frag} {W : WX} {σ : L2.St} {H H' : Hp} {F : Fm} {own : List Addr} {δ : List DV} {EK : Er → Prop} (h : At K W σ H F own δ EK) (e : Same H H') : At K W σ H' F own δ EK := ⟨h.env.grow e, h.pass.on e⟩
def tm (K : PySem.W.Frag) (W : WX) (b : Bool) (m : TM) : TE := fun σ H Q => ∃ (F : Fm) (own : List Addr) (δ : List DV) (P : D → Prop) (EK : Er → Prop), At K W σ H F own δ EK ∧ m δ P EK ∧
  ∀ d v H', P d → Same H H' → RV K F.ls0 (F.ls0 ++ own) H' b v d → Q v H'
def DE (X : Cx) (W : WX) (e : Expr) (b : Bool) (m : TM) : Prop := PE X e (tm X.K W b m)
def tb (K : PySem.W.Frag) (W : WX) (m : BM) : TT := fun σ H Q => ∃ (F : Fm) (own : List Addr) (δ : List DV) (P : Bool → Prop) (EK : Er → Prop), At K W σ H F own δ EK ∧ m δ P EK ∧ ∀ c H', P c → Same H H' → Q c H'
def DT (X : Cx) (W : WX) (e : Expr) (m : BM) : Prop := PT X e (tb X.K W m)
def DW (X : Cx) (W : WX) (e : Expr) (m : BM) : Prop := PW X e (tb X.K W m)
def tal (K : PySem.W.Frag) (W : WX) (b : Bool) (m : LM) : TA := fun σ H Q => ∃ (F : Fm) (own : List Addr) (δ : List DV) (P : List D → Prop) (EK : Er → Prop), At K W σ H F own δ EK ∧ m δ P EK ∧
  ∀ ds vs H', P ds → Same H H' → RVs K F.ls0 (F.ls0 ++ own) H' b vs ds → Q vs H'
def DA (X : Cx) (W : WX) (es : List Expr) (b : Bool) (m : LM) : Prop := PA X es (tal X.K W b m)

/-! weakening -/
theorem PE.imp {X : Cx} {e : Expr} {t t' : TE} (h : PE X e t) (k : ∀ σ H Q, t' σ H Q → t σ H Q) : PE X e t' := ⟨fun pins s σ H Q I q => h.run pins s σ H Q I (k _ _ _ q)⟩
theorem PT.imp {X : Cx} {e : Expr} {t t' : TT} (h : PT X e t) (k : ∀ σ H Q, t' σ H Q → t σ H Q) : PT X e t' := ⟨fun pins s σ H Q I q => h.run pins s σ H Q I (k _ _ _ q)⟩
theorem PW.imp {X : Cx} {e : Expr} {t t' : TT} (h : PW X e t) (k : ∀ σ H Q, t' σ H Q → t σ H Q) : PW X e t' := ⟨fun wh pins s σ H Q I q => h.run wh pins s σ H Q I (k _ _ _ q)⟩
theorem PA.imp {X : Cx} {es : List Expr} {t t' : TA} (h : PA X es t) (k : ∀ σ H Q, t' σ H Q → t σ H Q) : PA X es t' := ⟨fun pos pins s σ H Q I q => h.run pos pins s σ H Q I (k _ _ _ q)⟩
theorem PS.imp {X : Cx} {e : Stmt} {t t' : TS} (h : PS X e t) (k : ∀ D σ H, t' D σ H → t D σ H) : PS X e t' := ⟨fun pins s σ H D I q => h.run pins s σ H D I (k _ _ _ q)⟩
theorem PSs.imp {X : Cx} {e : List Stmt} {t t' : TS} (h : PSs X e t) (k : ∀ D σ H, t' D σ H → t D σ H) : PSs X e t' := ⟨fun pins s σ H D I q => h.run pins s σ H D I (k _ _ _ q)⟩

section
variable {X : Cx} {W : WX} {a b c e : Expr} {es : List Expr} {ba bb bc : Bool} {ma mb mc : TM} {pos : Pos}
theorem DE.up (h : DE X W e ba ma) : DE X W e true ma := PE.imp h fun σ H Q ⟨F, own, δ, P, EK, A, m, q⟩ => ⟨F, own, δ, P, EK, A, m, fun d v H' p s r => q d v H' p s r.up⟩
theorem DE.dn (h : DE X W e false ma) : DE X W e ba ma := PE.imp h fun σ H Q ⟨F, own, δ, P, EK, A, m, q⟩ => ⟨F, own, δ, P, EK, A, m, fun d v H' p s r => q d v H' p s (.cl r.clean)⟩

/-! ### names, constants -/
def mC (d : D) : TM := fun _ Q _ => Q d
def mVar (i : Nat) : TM := fun δ Q _ => ∃ d, δ[i]? = some (.v d) ∧ Q d
def mMut (i : Nat) : TM := fun δ Q _ => ∃ d, δ[i]? = some (.m d) ∧ Q d
theorem de_const {v : V} {d : D} (h : PE X e (tC v)) (r : ∀ H, Rep X.K H v d) : DE X W e false (mC d) := PE.imp h fun σ H Q ⟨F, own, δ, P, EK, A, m, q⟩ => q d v H m (Same.refl H) (.cl (r _))
theorem de_int {i : Int} {j : Nat} : DE X W (.Constant (.int i) j pos) false (mC (.int i)) := de_const pe_int fun _ => .int i
theorem de_bool {i : Bool} {j : Nat} : DE X W (.Constant (.bool i) j pos) false (mC (.bool i)) := de_const pe_bl fun _ => .bool i
theorem de_none {j : Nat} : DE X W (.Constant .none j pos) false (mC .none) := de_const pe_non fun _ => .non
theorem de_str {x : Str} {j : Nat} : DE X W (.Constant (.str x) j pos) false (mC (.str x)) := de_const pe_str fun _ => .str x
theorem de_var (i : Nat) {x : Str} (h : PE X (.Name x pos) (tVar i)) : DE X W (.Name x pos) false (mVar i) := PE.imp h fun σ H Q ⟨F, own, δ, P, EK, A, m, q⟩ => by
  obtain ⟨d, e, m⟩ := m
  obtain ⟨s, hs, x, rfl, r⟩ := A.env.slot i _ e
  exact ⟨x, hs, q d x H m (Same.refl H) (.cl r)⟩
theorem de_mut (i : Nat) {x : Str} (h : PE X (.Name x pos) (tVar i)) : DE X W (.Name x pos) true (mMut i) := PE.imp h fun σ H Q ⟨F, own, δ, P, EK, A, m, q⟩ => by
  obtain ⟨d, e, m⟩ := m
  obtain ⟨s, hs, x, rfl, _, r⟩ := A.env.slot i _ e
  exact ⟨_, hs, q d _ H m (Same.refl H) r⟩

/-! ### operators -/
def mBin (f : D → D → (D → Prop) → Prop) (ma mb : TM) : TM := fun δ Q E => ma δ (fun x => mb δ (fun y => f x y Q) E) E
def LinkOp (K : PySem.W.Frag) (r : R2) (f : D → D → (D → Prop) → Prop) : Prop := ∀ (fo ls : List Addr) (H : Hp) (x y : V) (dx dy : D) (P : D → Prop) (Q : VK), (∀ l, l ∈ ls → ∃ o, H l = some o ∧ Plain o) → RV K fo ls H true x dx → RV K fo ls H true y dy → f dx dy P →
  (∀ d v H', P d → Same H H' → Rep K (sub H' ls) v d → Q v H') → r x y H Q
theorem link_two {r : R2} {f : D → D → (D → Prop) → Prop} (lk : LinkOp X.K r f) {σ : L2.St} {H : Hp} {Q : VK} (h : tm X.K W false (mBin f ma mb) σ H Q) : tOp r (tm X.K W ba ma) (tm X.K W bb mb) σ H Q := by
  obtain ⟨F, own, δ, P, EK, A, m, q⟩ := h
  refine ⟨F, own, δ, _, EK, A, m, fun dx x H1 m1 s1 r1 => ?_⟩
  refine ⟨F, own, δ, _, EK, A.on s1, m1, fun dy y H2 m2 s2 r2 => ?_⟩
  exact lk _ _ H2 x y dx dy P Q (A.env.grow (s1.trans s2)).trk (r1.up.mono s2) r2.up m2 fun d v H' p s3 r3 => q d v H' p ((s1.trans s2).trans s3) (.cl r3)
theorem de_op {op : Operator} {r : R2} {f : D → D → (D → Prop) → Prop} (ho : OpR X (binaryOp op) r) (lk : LinkOp X.K r f) (ha : DE X W a ba ma) (hb : DE X W b bb mb) : DE X W (.BinOp a op b pos) false (mBin f ma mb) :=
  PE.imp (pe_op ho ha hb) fun _ _ _ h => link_two lk h
/-- comparisons: the answer is a bool, the heap as it was -/
def mCmp (f : D → D → (Bool → Prop) → Prop) (ma mb : TM) : TM := fun δ Q E => ma δ (fun x => mb δ (fun y => f x y fun c => Q (.bool c)) E) E
def mCmpT (f : D → D → (Bool → Prop) → Prop) (ma mb : TM) : BM := fun δ Q E => ma δ (fun x => mb δ (fun y => f x y Q) E) E
def LinkCmp (K : PySem.W.Frag) (r : R2) (f : D → D → (Bool → Prop) → Prop) : Prop := ∀ (fo ls : List Addr) (H : Hp) (x y : V) (dx dy : D) (P : Bool → Prop) (Q : VK), RV K fo ls H true x dx → RV K fo ls H true y dy → f dx dy P → (∀ c, P c → Q (.bl c) H) → r x y H Q
theorem LinkCmp.op {K : PySem.W.Frag} {r : R2} {f : D → D → (Bool → Prop) → Prop} (lk : LinkCmp K r f) : LinkOp K r fun x y Q => f x y fun c => Q (.bool c) := fun fo ls H x y dx dy P Q _ r1 r2 h q =>
  lk fo ls H x y dx dy _ Q r1 r2 h fun c p => q _ _ H p (Same.refl H) (.bool c)
theorem de_cmp {op : CmpOp} {r : R2} {f : D → D → (Bool → Prop) → Prop} (ho : OpR X (compareOp op) r) (lk : LinkCmp X.K r f) (hm : behindInMarks op b = false) (ha : DE X W a ba ma) (hb : DE X W b bb mb) : DE X W (.Compare a [op] [b] pos) false (mCmp f ma mb) :=
  PE.imp (pe_cmpR ho ha hb hm) fun _ _ _ h => link_two lk.op h
theorem dt_cmp {op : CmpOp} {r : R2} {f : D → D → (Bool → Prop) → Prop} (ho : OpR X (compareOp op) r) (lk : LinkCmp X.K r f) (hm : behindInMarks op b = false) (ha : DE X W a ba ma) (hb : DE X W b bb mb) : DT X W (.Compare a [op] [b] pos) (mCmpT f ma mb) :=
  PT.imp (pt_cmpR ho ha hb hm) fun σ H Q ⟨F, own, δ, P, EK, A, m, q⟩ => by
    refine ⟨F, own, δ, _, EK, A, m, fun dx x H1 m1 s1 r1 => ?_⟩
    refine ⟨F, own, δ, _, EK, A.on s1, m1, fun dy y H2 m2 s2 r2 => ?_⟩
    exact lk _ _ H2 x y dx dy P _ (r1.up.mono s2) r2.up m2 fun c p => ⟨c, rfl, q c H2 p (s1.trans s2)⟩
def mChain (f g : D → D → (Bool → Prop) → Prop) (ma mb mc : TM) : TM := fun δ Q E => ma δ (fun x => mb δ (fun y => f x y fun c => if c = true then mc δ (fun z => g y z fun c' => Q (.bool c')) E else Q (.bool false)) E) E
def mChainT (f g : D → D → (Bool → Prop) → Prop) (ma mb mc : TM) : BM := fun δ Q E => ma δ (fun x => mb δ (fun y => f x y fun c => if c = true then mc δ (fun z => g y z Q) E else Q false) E) E
theorem de_chain {op op' : CmpOp} {r r' : R2} {f g : D → D → (Bool → Prop) → Prop} (ho : OpR X (compareOp op) r) (lk : LinkCmp X.K r f) (ho' : OpR X (compareOp op') r') (lk' : LinkCmp X.K r' g) (ha : DE X W a ba ma) (hb : DE X W b bb mb) (hc : DE X W c bc mc) (hm : lastMarks [op, op'] [b, c] = false := by with_unfolding_all rfl) :
    DE X W (.Compare a [op, op'] [b, c] pos) false (mChain f g ma mb mc) :=
  PE.imp (pe_chain ho ho' ha hb hc hm) fun σ H Q ⟨F, own, δ, P, EK, A, m, q⟩ => by
    refine ⟨F, own, δ, _, EK, A, m, fun dx x H1 m1 s1 r1 => ?_⟩
    refine ⟨F, own, δ, _, EK, A.on s1, m1, fun dy y H2 m2 s2 r2 => ?_⟩
    refine lk _ _ H2 x y dx dy _ _ (r1.up.mono s2) r2.up m2 fun k p => ⟨k, rfl, ?_⟩
    cases k with
    | false => exact iteF (q _ _ H2 (by simpa using p) (s1.trans s2) (.cl (.bool false)))
    | true =>
      refine iteT ⟨F, own, δ, _, EK, A.on (s1.trans s2), (by simpa using p), fun dz z H3 m3 s3 r3 => ?_⟩
      exact lk' _ _ H3 y z dy dz _ _ (r2.up.mono s3) r3.up m3 fun k' p' => q _ _ H3 p' ((s1.trans s2).trans s3) (.cl (.bool k'))
theorem dt_chain {op op' : CmpOp} {r r' : R2} {f g : D → D → (Bool → Prop) → Prop} (ho : OpR X (compareOp op) r) (lk : LinkCmp X.K r f) (ho' : OpR X (compareOp op') r') (lk' : LinkCmp X.K r' g) (ha : DE X W a ba ma) (hb : DE X W b bb mb) (hc : DE X W c bc mc) (hm : lastMarks [op, op'] [b, c] = false := by with_unfolding_all rfl) :
    DT X W (.Compare a [op, op'] [b, c] pos) (mChainT f g ma mb mc) :=
  PT.imp (pt_chain ho ho' ha hb hc hm) fun σ H Q ⟨F, own, δ, P, EK, A, m, q⟩ => by
    refine ⟨F, own, δ, _, EK, A, m, fun dx x H1 m1 s1 r1 => ?_⟩
    refine ⟨F, own, δ, _, EK, A.on s1, m1, fun dy y H2 m2 s2 r2 => ?_⟩
    refine lk _ _ H2 x y dx dy _ _ (r1.up.mono s2) r2.up m2 fun k p => ⟨k, rfl, ?_⟩
    cases k with
    | false => exact iteF ⟨false, rfl, q _ H2 (by simpa using p) (s1.trans s2)⟩
    | true =>
      refine iteT ⟨F, own, δ, _, EK, A.on (s1.trans s2), (by simpa using p), fun dz z H3 m3 s3 r3 => ?_⟩
      exact lk' _ _ H3 y z dy dz _ _ (r2.up.mono s3) r3.up m3 fun k' p' => ⟨k', rfl, q _ H3 p' ((s1.trans s2).trans s3)⟩
end
end DL

set_option Elab.async false
set_option linter.all false
set_option maxRecDepth 100000
set_option maxHeartbeats 4000000
/-! DL2: and, or, not; argument lists, displays; places, slices; built-ins. -/
namespace DL
open PySem PySem.Spec PyProof.Rows L2
variable [TabsC]

section
variable {X : Cx} {W : WX} {a b c e : Expr} {es rest : List Expr} {ba bb bc : Bool} {ma mb mc : TM} {na nb : BM} {la : LM} {pos : Pos}
/-! ### tests -/
/-- a value that is a bool, as a test -/
def mTest (ma : TM) : BM := fun δ Q E => ma δ (fun d => ∃ c, d = .bool c ∧ Q c) E
def mVal (na : BM) : TM := fun δ Q E => na δ (fun c => Q (.bool c)) E
theorem RV.isBool {K : PySem.W.Frag} {fo ls : List Addr} {H : Hp} {b : Bool} {v : V} {c : Bool} (r : RV K fo ls H b v (.bool c)) : v = .bl c := by
  cases r with
  | cl r => cases r; rfl
theorem dt_val (ha : DE X W a ba ma) (he : ∀ whole, isTrue a X.env whole = (do let v ← whole; standAt a.pos; holding [v] (truthy v)) := by intro _; rfl) : DT X W a (mTest ma) :=
  PT.imp (pt_val ha he) fun σ H Q ⟨F, own, δ, P, EK, A, m, q⟩ => ⟨F, own, δ, _, EK, A, m, fun d v H' ⟨c, ed, p⟩ s r => by
    subst ed
    exact ⟨c, r.isBool, q c H' p s⟩⟩
def mNotT (na : BM) : BM := fun δ Q E => na δ (fun c => Q (!c)) E
def mAndT (na nb : BM) : BM := fun δ Q E => na δ (fun c => if c = true then nb δ Q E else Q false) E
def mOrT (na nb : BM) : BM := fun δ Q E => na δ (fun c => if c = true then Q true else nb δ Q E) E
theorem dt_not (ha : DT X W a na) : DT X W (.UnaryOp .Not a pos) (mNotT na) :=
  PT.imp (pt_not ha) fun σ H Q ⟨F, own, δ, P, EK, A, m, q⟩ => ⟨F, own, δ, _, EK, A, m, fun c H' p s => q _ H' p s⟩
theorem dw_and1 (ha : DT X W a na) : DW X W (.BoolOp .And [a] pos) na := pw_and1 ha
theorem dw_or1 (ha : DT X W a na) : DW X W (.BoolOp .Or [a] pos) na := pw_or1 ha
theorem dw_and (ha : DT X W a na) (hb : DW X W (.BoolOp .And (b :: rest) pos) nb) : DW X W (.BoolOp .And (a :: b :: rest) pos) (mAndT na nb) :=
  PW.imp (pw_and ha hb) fun σ H Q ⟨F, own, δ, P, EK, A, m, q⟩ => ⟨F, own, δ, _, EK, A, m, fun c H' p s => by
    cases c with
    | true => exact iteT ⟨F, own, δ, _, EK, A.on s, (by simpa using p), fun c H2 p2 s2 => q c H2 p2 (s.trans s2)⟩
    | false => exact iteF (q _ H' (by simpa using p) s)⟩
theorem dw_or (ha : DT X W a na) (hb : DW X W (.BoolOp .Or (b :: rest) pos) nb) : DW X W (.BoolOp .Or (a :: b :: rest) pos) (mOrT na nb) :=
  PW.imp (pw_or ha hb) fun σ H Q ⟨F, own, δ, P, EK, A, m, q⟩ => ⟨F, own, δ, _, EK, A, m, fun c H' p s => by
    cases c with
    | true => exact iteT (q _ H' (by simpa using p) s)
    | false => exact iteF ⟨F, own, δ, _, EK, A.on s, (by simpa using p), fun c H2 p2 s2 => q c H2 p2 (s.trans s2)⟩⟩
theorem dt_w (h : DW X W a na) : DT X W a na := PW.pt h
/-- .. as values -/
theorem de_not (ha : DE X W a ba ma) : DE X W (.UnaryOp .Not a pos) false (mVal (mNotT (mTest ma))) :=
  PE.imp (pe_not ha) fun σ H Q ⟨F, own, δ, P, EK, A, m, q⟩ => ⟨F, own, δ, _, EK, A, m, fun d v H' ⟨c, ed, p⟩ s r => by
    subst ed
    exact ⟨c, r.isBool, q _ _ H' p s (.cl (.bool _))⟩⟩
theorem de_one {op : BoolOp} (ha : DE X W a ba ma) : DE X W (.BoolOp op [a] pos) ba ma := pe_one ha
def mAnd (ma mb : TM) : TM := fun δ Q E => ma δ (fun d => ∃ c, d = .bool c ∧ if c = true then mb δ Q E else Q (.bool false)) E
def mOr (ma mb : TM) : TM := fun δ Q E => ma δ (fun d => ∃ c, d = .bool c ∧ if c = true then Q (.bool true) else mb δ Q E) E
theorem de_and (ha : DE X W a ba ma) (hb : DE X W (.BoolOp .And (b :: rest) pos) bb mb) : DE X W (.BoolOp .And (a :: b :: rest) pos) bb (mAnd ma mb) :=
  PE.imp (pe_and ha hb) fun σ H Q ⟨F, own, δ, P, EK, A, m, q⟩ => ⟨F, own, δ, _, EK, A, m, fun d v H' ⟨c, ed, p⟩ s r => by
    subst ed
    refine ⟨c, r.isBool, ?_⟩
    cases c with
    | true => exact iteT ⟨F, own, δ, _, EK, A.on s, (by simpa using p), fun d v H2 p2 s2 r2 => q d v H2 p2 (s.trans s2) r2⟩
    | false => exact iteF (q _ _ H' (by simpa using p) s (.cl (.bool _)))⟩
theorem de_or (ha : DE X W a ba ma) (hb : DE X W (.BoolOp .Or (b :: rest) pos) bb mb) : DE X W (.BoolOp .Or (a :: b :: rest) pos) bb (mOr ma mb) :=
  PE.imp (pe_or ha hb) fun σ H Q ⟨F, own, δ, P, EK, A, m, q⟩ => ⟨F, own, δ, _, EK, A, m, fun d v H' ⟨c, ed, p⟩ s r => by
    subst ed
    refine ⟨c, r.isBool, ?_⟩
    cases c with
    | true => exact iteT (q _ _ H' (by simpa using p) s (.cl (.bool _)))
    | false => exact iteF ⟨F, own, δ, _, EK, A.on s, (by simpa using p), fun d v H2 p2 s2 r2 => q d v H2 p2 (s.trans s2) r2⟩⟩
def mIf (na : BM) (ma mb : TM) : TM := fun δ Q E => na δ (fun c => if c = true then ma δ Q E else mb δ Q E) E
theorem de_if (hc : DT X W c na) (ha : DE X W a ba ma) (hb : DE X W b ba mb) : DE X W (.IfExp c a b pos) ba (mIf na ma mb) :=
  PE.imp (pe_ifExp hc ha hb) fun σ H Q ⟨F, own, δ, P, EK, A, m, q⟩ => ⟨F, own, δ, _, EK, A, m, fun c H' p s => by
    cases c with
    | true => exact iteT ⟨F, own, δ, _, EK, A.on s, (by simpa using p), fun d v H2 p2 s2 r2 => q d v H2 p2 (s.trans s2) r2⟩
    | false => exact iteF ⟨F, own, δ, _, EK, A.on s, (by simpa using p), fun d v H2 p2 s2 r2 => q d v H2 p2 (s.trans s2) r2⟩⟩
def mIsNone (ma : TM) : TM := fun δ Q E => ma δ (fun d => Q (.bool (match d with | .none => true | _ => false))) E
def isNoneD : D → Bool | .none => true | _ => false
theorem RV.isNone {K : PySem.W.Frag} {fo ls : List Addr} {H : Hp} {b : Bool} {v : V} {d : D} (r : RV K fo ls H b v d) : decide (v = .non) = isNoneD d := by
  cases r with
  | cl r => cases r <;> rfl
  | ml _ _ _ _ => rfl
  | md _ _ _ _ => rfl
  | mo _ _ _ _ => rfl
def fIs (x y : D) (Q : Bool → Prop) : Prop := y = .none ∧ Q (isNoneD x)
def fIsNot (x y : D) (Q : Bool → Prop) : Prop := y = .none ∧ Q (!isNoneD x)
theorem RV.non {K : PySem.W.Frag} {fo ls : List Addr} {H : Hp} {b : Bool} {v : V} (r : RV K fo ls H b v .none) : v = .non := by
  cases r with
  | cl r => cases r; rfl
theorem RV.isInt {K : PySem.W.Frag} {fo ls : List Addr} {H : Hp} {b : Bool} {v : V} {i : Int} (r : RV K fo ls H b v (.int i)) : v = .int i := by
  cases r with
  | cl r => cases r; rfl
theorem RV.isStr {K : PySem.W.Frag} {fo ls : List Addr} {H : Hp} {b : Bool} {v : V} {i : Str} (r : RV K fo ls H b v (.str i)) : v = .str i := by
  cases r with
  | cl r => cases r; rfl

/-! ### argument lists -/
def mNil : LM := fun _ Q _ => Q []
def mCons (ma : TM) (la : LM) : LM := fun δ Q E => ma δ (fun d => la δ (fun ds => Q (d :: ds)) E) E
theorem da_nil : DA X W [] ba mNil := PA.imp pa_nil fun σ H Q ⟨F, own, δ, P, EK, A, m, q⟩ => q [] [] H m (Same.refl H) .nil
theorem da_cons (ha : DE X W e ba ma) (hr : DA X W es ba la) (hs : starEach (e :: es) X.env = (false, eval e X.env) :: starEach es X.env := by rfl) : DA X W (e :: es) ba (mCons ma la) :=
  PA.imp (pa_cons ha hr hs) fun σ H Q ⟨F, own, δ, P, EK, A, m, q⟩ => ⟨F, own, δ, _, EK, A, m, fun d v H1 m1 s1 r1 =>
    ⟨F, own, δ, _, EK, A.on s1, m1, fun ds vs H2 m2 s2 r2 => q _ _ H2 m2 (s1.trans s2) (.cons (r1.mono s2) r2)⟩⟩

/-! ### displays -/
def mTup (la : LM) : TM := fun δ Q E => la δ (fun ds => ds.length ≤ sizeLine ∧ Q (.tup ds)) E
def mLst (la : LM) : TM := fun δ Q E => la δ (fun ds => ds.length ≤ sizeLine ∧ Q (.list ds)) E
theorem de_tup {x1 : Nat} (h : DA X W es false la) : DE X W (.Tuple es x1 pos) false (mTup la) :=
  PE.imp (pe_tup h) fun σ H Q ⟨F, own, δ, P, EK, A, m, q⟩ => ⟨F, own, δ, _, EK, A, m, fun ds vs H1 m1 s1 r1 => by
    obtain ⟨hl, m1⟩ := m1
    have hz : vs.length ≤ sizeLine := by rw [r1.length]; exact hl
    refine ⟨hz, fun p hp => ?_⟩
    have hn : p ∉ F.ls0 ++ own := fun z => by
      obtain ⟨o, e, nn⟩ := (A.env.grow s1).trk p z
      rw [hp] at e; cases e
    refine q _ _ _ m1 (s1.trans (same_upd hp)) (.cl (.tup (.of ?_) hz (r1.clean.mono (sub_same (same_upd hp).ob))))
    rw [sub_out hn]
    exact upd_same⟩
/-- a new container of our own: it was not there, its items do not hang on it -/
def tf (K : PySem.W.Frag) (W : WX) (m : TM) : TE := fun σ H Q => ∃ (F : Fm) (own : List Addr) (δ : List DV) (P : D → Prop) (EK : Er → Prop), At K W σ H F own δ EK ∧ m δ P EK ∧
  ∀ d p H', P d → H p = none → Same H H' → FV K (p :: (F.ls0 ++ own)) H' p d → Q (.ref p) H'
def DF (X : Cx) (W : WX) (e : Expr) (m : TM) : Prop := PE X e (tf X.K W m)
theorem new_out {K : PySem.W.Frag} {W : WX} {σ : L2.St} {H : Hp} {F : Fm} {own : List Addr} {δ : List DV} {EK : Er → Prop} {p : Addr} (A : At K W σ H F own δ EK) (hp : H p = none) : p ∉ F.ls0 ++ own := fun z => by
  obtain ⟨o, e, nn⟩ := A.env.trk p z
  rw [hp] at e; cases e
theorem FV.clean {K : PySem.W.Frag} {ls : List Addr} {H : Hp} {p : Addr} {d : D} (hp : p ∉ ls) (hd : isDic d = false) (r : FV K (p :: ls) H p d) : Rep K (sub H ls) (.ref p) d := by
  have le : Grow (sub H (p :: ls)) (sub H ls) := sub_less fun a h => List.mem_cons_of_mem _ h
  cases r with
  | l h l r => exact .list (by rw [sub_out hp]; exact h) l (r.mono le)
  | d h l r => cases hd
  | o c h r => exact .obj c (by rw [sub_out hp]; exact h) (r.mono le)
/-- a cell's tracking told anew -/
theorem Inv.retrack {pins : List (Addr × Obj)} {σ : L2.St} {H : Hp} {s : Shared} {p : Addr} {o : HO} (I : Inv X pins σ H s) (mu : Mut (H p)) (new : ObjOk X.prog X.w (upd H p o) s.heap p o) : Inv X pins σ (upd H p o) s := by
  have there : ∃ u, s.heap.get? p = some u := by
    cases e : H p with
    | none => rw [e] at mu; exact mu.elim
    | some u => exact objOk_get (I.hok p u e)
  exact I.write (h' := s.heap) (t' := s.toks) mu (.inl rfl) (fun _ _ _ h => h) there new
/-- a dict is locked for good -/
theorem Inv.locked {pins : List (Addr × Obj)} {σ : L2.St} {H : Hp} {s : Shared} {p : Addr} {kvs : List (Key × V)} (I : Inv X pins σ H s) (h : H p = some (.dK kvs)) : ∃ od, Inv X pins σ (upd H p (.frz od (.dK kvs))) s := by
  have x : ObjOk X.prog X.w H s.heap p (.dK kvs) := I.hok p _ h
  obtain ⟨od, ho⟩ := objOk_get x
  exact ⟨od, Inv.retrack I (by rw [h]; trivial) ⟨ho, x⟩⟩
theorem pe_lockd {t : TE} (h : PE X e t) : PE X e (fun σ H Q => t σ H fun v H1 => Q v H1 ∨ ∃ a kvs, v = .ref a ∧ H1 a = some (.dK kvs) ∧ ∀ od, Q v (upd H1 a (.frz od (.dK kvs)))) := by
  refine ⟨fun pins s σ H Q I q => ?_⟩
  refine thn (h.run pins s σ H _ I q) fun u s1 ⟨v, H1, I1, rv, z⟩ => ?_
  rcases z with z | ⟨a, kvs, ev, ha, z⟩
  · exact ⟨v, H1, I1, rv, z⟩
  · obtain ⟨od, I2⟩ := Inv.locked I1 ha
    exact ⟨v, _, I2, rv, z od⟩
theorem same_upd2 {H H' : Hp} {p : Addr} {o : HO} (h : H p = none) (s : Same H H') (hp : ∃ u, H' p = some u ∧ isTbl u = false ∧ ∀ c q, u ≠ LamX.CodeO c q) : Same H (upd H' p o) := by
  obtain ⟨u, e, n, m⟩ := hp
  exact Same.put s h e n m
theorem not_code {o : HO} (h : match o with | .ext _ => False | _ => True) : ∀ c q, o ≠ LamX.CodeO c q := fun c q z => by rw [z] at h; exact h
theorem DF.de (h : DF X W e ma) : DE X W e ba ma := DE.dn (PE.imp (pe_lockd h) fun σ H Q ⟨F, own, δ, P, EK, A, m, q⟩ => ⟨F, own, δ, P, EK, A, m, fun d p H' pd hp s r => by
  have hn := new_out A hp
  cases hd : isDic d with
  | false => exact .inl (q d _ H' pd s (.cl (r.clean hn hd)))
  | true =>
    cases r with
    | l _ _ _ => cases hd
    | o _ _ _ => cases hd
    | @d kvs ds h l r =>
      refine .inr ⟨p, kvs, rfl, h, fun od => q _ _ _ pd (same_upd2 hp s ⟨_, h, rfl, not_code trivial⟩) (.cl (.dict (od := od) ?_ l ?_))⟩
      · rw [sub_out hn]; exact upd_same
      · have e : Grow (sub H' (p :: (F.ls0 ++ own))) (sub (upd H' p (.frz od (.dK kvs))) (F.ls0 ++ own)) := by
          rw [← sub_upd (H := H') (o := .frz od (.dK kvs)) (List.mem_cons_self (a := p) (l := F.ls0 ++ own))]
          exact sub_less fun a h => List.mem_cons_of_mem _ h
        exact r.mono e⟩)
theorem df_lst (h : DA X W es false la) : DF X W (.List es pos) (mLst la) :=
  PE.imp (pe_lst h) fun σ H Q ⟨F, own, δ, P, EK, A, m, q⟩ => ⟨F, own, δ, _, EK, A, m, fun ds vs H1 m1 s1 r1 => by
    obtain ⟨hl, m1⟩ := m1
    have hz : vs.length ≤ sizeLine := by rw [r1.length]; exact hl
    refine ⟨hz, fun p hp => ?_⟩
    exact q _ _ _ m1 (s1.free hp) (s1.trans (same_upd hp)) (.l upd_same hz (r1.clean.mono (sub_fresh hp (same_upd hp))))⟩

/-! ### places -/
/-- the i-th item, from behind if i is negative -/
def fIx (x y : D) (Q : D → Prop) : Prop := match x, y with
  | .list ds, .int i => ∃ d, atI ds i = some d ∧ Q d
  | .tup ds, .int i => ∃ d, atI ds i = some d ∧ Q d
  | .script ns, .int i => ∃ n, atI ns i = some n ∧ Q (.int n)
  | .str z, .int i => ∃ c, z.length ≤ sizeLine ∧ atI z.cps.toList i = some c ∧ Q (.str ⟨#[c]⟩)
  | _, _ => False
theorem atI_rel {α β : Type} {R : α → β → Prop} {xs : List α} {ys : List β} {i : Int} {y : β} (hl : xs.length = ys.length) (h : ∀ (j : Nat) (y : β), ys[j]? = some y → ∃ x, xs[j]? = some x ∧ R x y) (e : atI ys i = some y) : ∃ x, atI xs i = some x ∧ R x y := by
  unfold atI at e ⊢
  rw [hl]
  cases q : ixN ys.length i with
  | none => rw [q] at e; cases e
  | some j =>
    rw [q] at e
    exact h j y e
theorem ix_any : IxR X (rIx X.K) := ix_seq
theorem link_ix : LinkOp X.K (rIx X.K) fIx := by
  intro fo ls H x y dx dy P Q ht rx ry h q
  unfold fIx at h
  split at h
  · obtain ⟨d, e, p⟩ := h
    obtain ⟨a, xs, rfl, ha, hz, rs⟩ := rx.list
    obtain ⟨v, ev, rv⟩ := atI_rel rs.length (fun j y => rs.get') e
    exact .inl ⟨a, xs, _, v, rfl, ry.isInt, .of ha, ev, q d v H p (Same.refl H) rv⟩
  · obtain ⟨d, e, p⟩ := h
    obtain ⟨a, xs, rfl, ha, hz, rs⟩ := rx.tup
    obtain ⟨v, ev, rv⟩ := atI_rel rs.length (fun j y => rs.get') e
    exact .inr (.inl ⟨a, xs, _, v, rfl, ry.isInt, ha, ev, q d v H p (Same.refl H) rv⟩)
  · obtain ⟨n, e, p⟩ := h
    cases rx with
    | cl rx =>
      cases rx with
      | script hs hl =>
        obtain ⟨v, ev, rv⟩ := atI_rel (R := fun v n => v = V.int n) (xs := List.map V.int _) (by rw [List.length_map]) (fun j y h => ⟨.int y, by rw [List.getElem?_map, h]; rfl, rfl⟩) e
        subst rv
        exact .inl ⟨_, _, _, _, rfl, ry.isInt, sub_le.seq hs, ev, q _ _ H p (Same.refl H) (.int n)⟩
  · obtain ⟨c, hz, e, p⟩ := h
    have := rx.isStr
    subst this
    exact .inr (.inr ⟨_, _, _, rfl, ry.isInt, hz, e, q _ _ H p (Same.refl H) (.str _)⟩)
  · exact h.elim
theorem de_ix (hs : PlainIx b) (ha : DE X W a ba ma) (hb : DE X W b bb mb) : DE X W (.Subscript a b pos) false (mBin fIx ma mb) :=
  PE.imp (pe_ix ix_seq ha hb hs) fun _ _ _ h => link_two link_ix h

/-! ### calls of built-ins -/
def mB (f : List D → (D → Prop) → Prop) (la : LM) : TM := fun δ Q E => la δ (fun ds => f ds Q) E
def LinkB (K : PySem.W.Frag) (r : List V → Hp → VK → Prop) (f : List D → (D → Prop) → Prop) : Prop := ∀ (fo ls : List Addr) (H : Hp) (vs : List V) (ds : List D) (P : D → Prop) (Q : VK), (∀ l, l ∈ ls → ∃ o, H l = some o ∧ Plain o) → RVs K fo ls H true vs ds → f ds P →
  (∀ d v H', P d → Same H H' → Rep K (sub H' ls) v d → Q v H') → r vs H Q
theorem link_b {r : List V → Hp → VK → Prop} {f : List D → (D → Prop) → Prop} (lk : LinkB X.K r f) {σ : L2.St} {H : Hp} {Q : VK} (h : tm X.K W false (mB f la) σ H Q) : tCB r (tal X.K W ba la) σ H Q := by
  obtain ⟨F, own, δ, P, EK, A, m, q⟩ := h
  refine ⟨F, own, δ, _, EK, A, m, fun ds vs H1 m1 s1 r1 => ?_⟩
  exact lk _ _ H1 vs ds P Q (A.env.grow s1).trk r1.up m1 fun d v H' p s3 r3 => q d v H' p (s1.trans s3) (.cl r3)
variable {x : Str} {p : Pos} {id T : String} {r : List V → Hp → VK → Prop} {f : List D → (D → Prop) → Prop}
theorem de_callB (hc : CallR X (.builtin id) r) (lk : LinkB X.K r f) (hg : Gl X x) (hm : X.mg x = none) (hv : bootBuiltins x = some (.builtin id)) (ha : DA X W (e :: es) ba la) (hn : x ≠ "__name__" := by decide) (hdb : (x == ("__debug__" : Str)) = false := by decide)
    (he : starEach (e :: es) X.env = (false, eval e X.env) :: starEach es X.env := by rfl) (hpl : (backTo pos (starEach es X.env)).any (·.1) = false := by rfl) : DE X W (.Call (.Name x p) (e :: es) [] pos) false (mB f la) :=
  PE.imp (pe_callB hc hg hm hv ha hn hdb he hpl) fun _ _ _ h => link_b lk h
theorem de_callT (hc : CallR X (.type T) r) (lk : LinkB X.K r f) (hg : Gl X x) (hm : X.mg x = none) (hv : bootBuiltins x = some (.type T)) (ha : DA X W (e :: es) ba la) (hn : x ≠ "__name__" := by decide) (hdb : (x == ("__debug__" : Str)) = false := by decide)
    (he : starEach (e :: es) X.env = (false, eval e X.env) :: starEach es X.env := by rfl) (hpl : (backTo pos (starEach es X.env)).any (·.1) = false := by rfl) : DE X W (.Call (.Name x p) (e :: es) [] pos) false (mB f la) :=
  PE.imp (pe_callTy hc hg hm hv ha hn hdb he hpl) fun _ _ _ h => link_b lk h
/-- .. that give a new container -/
def LinkF (K : PySem.W.Frag) (r : List V → Hp → VK → Prop) (f : List D → (D → Prop) → Prop) : Prop := ∀ (fo ls : List Addr) (H : Hp) (vs : List V) (ds : List D) (P : D → Prop) (Q : VK), (∀ l, l ∈ ls → ∃ o, H l = some o ∧ Plain o) → RVs K fo ls H true vs ds → f ds P →
  (∀ d p H', P d → H p = none → Same H H' → FV K (p :: ls) H' p d → Q (.ref p) H') → r vs H Q
theorem link_f {r : List V → Hp → VK → Prop} {f : List D → (D → Prop) → Prop} (lk : LinkF X.K r f) {σ : L2.St} {H : Hp} {Q : VK} (h : tf X.K W (mB f la) σ H Q) : tCB r (tal X.K W ba la) σ H Q := by
  obtain ⟨F, own, δ, P, EK, A, m, q⟩ := h
  refine ⟨F, own, δ, _, EK, A, m, fun ds vs H1 m1 s1 r1 => ?_⟩
  exact lk _ _ H1 vs ds P Q (A.env.grow s1).trk r1.up m1 fun d v H' p hn s3 r3 => q d v H' p (s1.free hn) (s1.trans s3) r3
theorem df_callB (hc : CallR X (.builtin id) r) (lk : LinkF X.K r f) (hg : Gl X x) (hm : X.mg x = none) (hv : bootBuiltins x = some (.builtin id)) (ha : DA X W (e :: es) ba la) (hn : x ≠ "__name__" := by decide) (hdb : (x == ("__debug__" : Str)) = false := by decide)
    (he : starEach (e :: es) X.env = (false, eval e X.env) :: starEach es X.env := by rfl) (hpl : (backTo pos (starEach es X.env)).any (·.1) = false := by rfl) : DF X W (.Call (.Name x p) (e :: es) [] pos) (mB f la) :=
  PE.imp (pe_callB hc hg hm hv ha hn hdb he hpl) fun _ _ _ h => link_f lk h
theorem df_callT (hc : CallR X (.type T) r) (lk : LinkF X.K r f) (hg : Gl X x) (hm : X.mg x = none) (hv : bootBuiltins x = some (.type T)) (ha : DA X W (e :: es) ba la) (hn : x ≠ "__name__" := by decide) (hdb : (x == ("__debug__" : Str)) = false := by decide)
    (he : starEach (e :: es) X.env = (false, eval e X.env) :: starEach es X.env := by rfl) (hpl : (backTo pos (starEach es X.env)).any (·.1) = false := by rfl) : DF X W (.Call (.Name x p) (e :: es) [] pos) (mB f la) :=
  PE.imp (pe_callTy hc hg hm hv ha hn hdb he hpl) fun _ _ _ h => link_f lk h
end
end DL

set_option Elab.async false
set_option linter.all false
set_option maxRecDepth 100000
set_option maxHeartbeats 4000000
/-! DL3: names set, cells of one's own, statements, loops. -/
namespace DL
open PySem PySem.Spec PyProof.Rows L2
variable [TabsC]

theorem sub_congr {H : Hp} {ls ls' : List Addr} (h : ∀ a, a ∈ ls ↔ a ∈ ls') : sub H ls = sub H ls' := by
  funext a
  unfold sub
  by_cases e : a ∈ ls
  · rw [if_pos e, if_pos ((h a).mp e)]
  · rw [if_neg e, if_neg fun z => e ((h a).mpr z)]
theorem mem_swap {ls own : List Addr} {p : Addr} (a : Addr) : a ∈ p :: (ls ++ own) ↔ a ∈ ls ++ (p :: own) := by
  simp only [List.mem_cons, List.mem_append]
  constructor
  · rintro (h | h | h)
    · exact .inr (.inl h)
    · exact .inl h
    · exact .inr (.inr h)
  · rintro (h | h | h)
    · exact .inr (.inl h)
    · exact .inl h
    · exact .inr (.inr h)
theorem set_get {α : Type} {l : List α} {i j : Nat} {x y : α} (h : (l.set i x)[j]? = some y) : (j = i ∧ i < l.length ∧ y = x) ∨ (j ≠ i ∧ l[j]? = some y) := by
  by_cases e : j = i
  · subst e
    by_cases hl : j < l.length
    · rw [List.getElem?_set_self hl] at h
      cases h
      exact .inl ⟨rfl, hl, rfl⟩
    · rw [List.set_eq_of_length_le (Nat.le_of_not_lt hl)] at h
      exact absurd (List.getElem?_eq_some_iff.mp h).1 hl
  · rw [List.getElem?_set_ne (Ne.symm e)] at h
    exact .inr ⟨e, h⟩

theorem TabS.less {H : Hp} {a P : Addr} {q : Str} {o : HO} (h : H a = some o) (n : Plain o) (t : LamX.TabS H P q) : LamX.TabS (sub H [a]) P q := by
  obtain ⟨ps, h1, h2, h3⟩ := t
  have nP : P ∉ [a] := fun z => by
    rw [List.mem_singleton.mp z, h] at h1
    cases h1
    cases n.1
  refine ⟨ps, by rw [sub_out nP]; exact h1, h2, fun pos cv hc => ?_⟩
  obtain ⟨c, e1, e2⟩ := h3 pos cv hc
  refine ⟨c, e1, ?_⟩
  rw [sub_out fun z => ?_]
  · exact e2
  · rw [List.mem_singleton.mp z, h] at e2
    exact n.2 _ _ (Option.some.inj e2)
/-- one cell is another one -/
theorem same_put {H : Hp} {a : Addr} {o : HO} : Same (sub H [a]) (upd H a o) := by
  have key : ∀ b u, sub H [a] b = some u → upd H a o b = some u := fun b u h => by
    by_cases e : b = a
    · rw [sub_in (by simp [e])] at h; cases h
    · rw [sub_out (by simpa using e)] at h
      rw [upd_ne e]; exact h
  exact Same.of key
theorem Same.but {H0 H H' : Hp} {a : Addr} {o : HO} (e : Same H0 H) (h0 : H0 a = none) (h : H a = some o) (n : Plain o) (s : Same (sub H [a]) H') : Same H0 H' := by
  refine ⟨⟨fun b u q hb => s.ob.get b u ?_ hb⟩, fun t => s.tb fun p hp => TabS.less h n (e.tb t p hp), fun b z => ?_⟩
  · rw [sub_out (by simpa using ne_of_none q h0)]
    exact e.ob.get b u q hb
  · have := s.ne b z
    by_cases hb : b = a
    · rw [hb]; exact h0
    · rw [sub_out (by simpa using hb)] at this
      exact e.ne b this
theorem Same.butSub {H H' : Hp} {a : Addr} {ls : List Addr} (ha : a ∈ ls) (s : Same (sub H [a]) H') : Grow (sub H ls) (sub H' ls) := ⟨fun b u q hb => by
  by_cases hl : b ∈ ls
  · rw [sub_in hl] at q; cases q
  · rw [sub_out hl] at q ⊢
    refine s.ob.get b u ?_ hb
    rw [sub_out (fun z => hl (by rw [List.mem_singleton.mp z]; exact ha))]
    exact q⟩
theorem Same.butAt {H H' : Hp} {a b : Addr} {u : HO} (s : Same (sub H [a]) H') (hb : b ≠ a) (h : H b = some u) (n : isTbl u = false := by rfl) : H' b = some u := s.ob.get b u (by rw [sub_out (by simpa using hb)]; exact h) n
theorem RV.grow {K : PySem.W.Frag} {fo ls ls' : List Addr} {H H' : Hp} {a : Addr} {d : D} (g : Grow (sub H ls) (sub H' ls')) (k : ∀ u, H a = some u → isTbl u = false → H' a = some u) (r : RV K fo ls H true (.ref a) d) : RV K fo ls' H' true (.ref a) d := by
  cases r with
  | cl r => exact .cl (r.mono g)
  | ml n p q r => exact .ml n (k _ p rfl) q (r.mono g)
  | md n p q r => exact .md n (k _ p rfl) q (r.mono g)
  | mo n c p r => exact .mo n c (k _ p rfl) (r.mono g)

section
variable {K : PySem.W.Frag} {F : Fm} {own : List Addr} {σ : L2.St} {δ : List DV} {H H' : Hp}
theorem EnvD.lent_set (E : EnvD K F own σ δ H) {i : Nat} {x : DV} {σ' : L2.St} (hx : ∀ d, x ≠ .s d) (hσ : ∀ j, j ≠ i → σ'[j]? = σ[j]?) (j : Nat) (d : D) (a : Addr) (h : (δ.set i x)[j]? = some (.s d)) (h2 : σ'[j]? = some (some (.ref a))) : F.H0 a = none := by
  rcases set_get h with ⟨_, _, z⟩ | ⟨ne, h⟩
  · exact absurd z.symm (hx d)
  · rw [hσ j ne] at h2; exact E.lent j d a h h2
theorem EnvD.alone_set (E : EnvD K F own σ δ H) {i : Nat} {x : DV} {σ' : L2.St} (hx : ∀ d, x ≠ .s d) (hσ : ∀ j, j ≠ i → σ'[j]? = σ[j]?) (j k : Nat) (dj dk : D) (a : Addr) (h1 : (δ.set i x)[j]? = some (.s dj)) (h2 : (δ.set i x)[k]? = some (.s dk)) (h3 : σ'[j]? = some (some (.ref a))) (h4 : σ'[k]? = some (some (.ref a))) : j = k := by
  rcases set_get h1 with ⟨_, _, z⟩ | ⟨n1, h1⟩
  · exact absurd z.symm (hx dj)
  rcases set_get h2 with ⟨_, _, z⟩ | ⟨n2, h2⟩
  · exact absurd z.symm (hx dk)
  rw [hσ j n1] at h3
  rw [hσ k n2] at h4
  exact E.alone j k dj dk a h1 h2 h3 h4
theorem set_off {i : Nat} {x : Option V} (j : Nat) (h : j ≠ i) : (σ.set i x)[j]? = σ[j]? := List.getElem?_set_ne (Ne.symm h)
theorem EnvD.set (E : EnvD K F own σ δ H) (i : Nat) {v : V} {d : D} (r : Rep K (sub H (F.ls0 ++ own)) v d) : EnvD K F own (σ.set i (some v)) (δ.set i (.v d)) H := by
  refine ⟨E.same, E.imm, E.tabs, E.new, E.trk, E.sep, by rw [List.length_set, List.length_set]; exact E.len, fun j dv h => ?_, E.lent_set (fun d z => by cases z) set_off, E.alone_set (fun d z => by cases z) set_off, fun j k dj dk a h1 h2 h3 h4 => ?_⟩
  · rcases set_get h with ⟨rfl, hl, rfl⟩ | ⟨ne, h⟩
    · exact ⟨some v, List.getElem?_set_self (by rw [E.len]; exact hl), v, rfl, r⟩
    · obtain ⟨s, e, q⟩ := E.slot j dv h
      exact ⟨s, by rw [List.getElem?_set_ne (Ne.symm ne)]; exact e, q⟩
  · rcases set_get h1 with ⟨_, _, z⟩ | ⟨n1, h1⟩
    · cases z
    rcases set_get h2 with ⟨_, _, z⟩ | ⟨n2, h2⟩
    · cases z
    rw [List.getElem?_set_ne (Ne.symm n1)] at h3
    rw [List.getElem?_set_ne (Ne.symm n2)] at h4
    exact E.apart j k dj dk a h1 h2 h3 h4
theorem EnvD.unset (E : EnvD K F own σ δ H) (i : Nat) (s : Option V) : EnvD K F own (σ.set i s) (δ.set i .u) H := by
  refine ⟨E.same, E.imm, E.tabs, E.new, E.trk, E.sep, by rw [List.length_set, List.length_set]; exact E.len, fun j dv h => ?_, E.lent_set (fun d z => by cases z) set_off, E.alone_set (fun d z => by cases z) set_off, fun j k dj dk a h1 h2 h3 h4 => ?_⟩
  · rcases set_get h with ⟨rfl, hl, rfl⟩ | ⟨ne, h⟩
    · exact ⟨s, List.getElem?_set_self (by rw [E.len]; exact hl), trivial⟩
    · obtain ⟨s, e, q⟩ := E.slot j dv h
      exact ⟨s, by rw [List.getElem?_set_ne (Ne.symm ne)]; exact e, q⟩
  · rcases set_get h1 with ⟨_, _, z⟩ | ⟨n1, h1⟩
    · cases z
    rcases set_get h2 with ⟨_, _, z⟩ | ⟨n2, h2⟩
    · cases z
    rw [List.getElem?_set_ne (Ne.symm n1)] at h3
    rw [List.getElem?_set_ne (Ne.symm n2)] at h4
    exact E.apart j k dj dk a h1 h2 h3 h4
/-- a new cell is ours -/
theorem EnvD.grab (E : EnvD K F own σ δ H) {p : Addr} (hp : H p = none) (e : Same H H') (hn : ∃ o, H' p = some o ∧ Plain o) : EnvD K F (p :: own) σ δ H' := by
  have sf : Grow (sub H (F.ls0 ++ own)) (sub H' (F.ls0 ++ (p :: own))) := by
    rw [← sub_congr (H := H') (mem_swap (ls := F.ls0) (own := own) (p := p))]
    exact sub_fresh hp e
  have E' := E.grow e
  refine ⟨E'.same, E.imm.trans sf, E'.tabs, fun l h => ?_, fun l h => ?_, fun l h => ?_, E.len, fun j dv h => ?_, E.lent, E.alone, E.apart⟩
  · rcases List.mem_cons.mp h with rfl | h
    · exact E.same.free hp
    · exact E.new l h
  · rcases List.mem_cons.mp ((mem_swap l).mpr h) with rfl | h
    · exact hn
    · exact E'.trk l h
  · rcases List.mem_cons.mp h with rfl | h
    · intro z
      obtain ⟨o, q, nn⟩ := E.trk l (List.mem_append_left _ z)
      rw [hp] at q; cases q
    · exact E.sep l h
  · obtain ⟨s, e1, q⟩ := E.slot j dv h
    refine ⟨s, e1, ?_⟩
    cases dv with
    | u => trivial
    | v d => obtain ⟨x, e2, r⟩ := q; exact ⟨x, e2, r.mono sf⟩
    | m d =>
      obtain ⟨a, e2, ha, r⟩ := q
      exact ⟨a, e2, List.mem_cons_of_mem _ ha, r.grow sf fun u h n => e.ob.get _ u h n⟩
    | s d => obtain ⟨a, C, dx, n, fs, ds, e1, h1, h2, h3, h4, r⟩ := q; exact ⟨a, C, dx, n, fs, ds, e1, h1, h2, h3, e _ _ h4, r.mono sf⟩
theorem EnvD.setm (E : EnvD K F own σ δ H) (i : Nat) {p : Addr} {d : D} (hp : H p = none) (e : Same H H') (r : FV K (p :: (F.ls0 ++ own)) H' p d) : EnvD K F (p :: own) (σ.set i (some (.ref p))) (δ.set i (.m d)) H' := by
  have hn : ∃ o, H' p = some o ∧ Plain o := by
    cases r with
    | l h _ _ => exact ⟨_, h, plain_of⟩
    | d h _ _ => exact ⟨_, h, plain_of⟩
    | o _ h _ => exact ⟨_, h, plain_of⟩
  have G := E.grab hp e hn
  have np : ∀ (j : Nat) (dj : D), δ[j]? = some (.m dj) → σ[j]? ≠ some (some (.ref p)) := fun j dj h z => by
    obtain ⟨s, e1, a, e2, ha, _⟩ := E.slot j _ h
    rw [e1] at z; cases z
    cases e2
    obtain ⟨o, q, nn⟩ := E.trk p (List.mem_append_right _ ha)
    rw [hp] at q; cases q
  refine ⟨G.same, G.imm, G.tabs, G.new, G.trk, G.sep, by rw [List.length_set, List.length_set]; exact G.len, fun j dv h => ?_, G.lent_set (fun d z => by cases z) set_off, G.alone_set (fun d z => by cases z) set_off, fun j k dj dk a h1 h2 h3 h4 => ?_⟩
  · rcases set_get h with ⟨rfl, hl, rfl⟩ | ⟨ne, h⟩
    · refine ⟨some (.ref p), List.getElem?_set_self (by rw [G.len]; exact hl), p, rfl, List.mem_cons_self, ?_⟩
      have out : p ∉ F.ls0 := fun z => by
        obtain ⟨o, q, nn⟩ := E.trk p (List.mem_append_left _ z)
        rw [hp] at q; cases q
      cases r with
      | l q1 q2 q3 => exact .ml out q1 q2 (by rw [← sub_congr mem_swap]; exact q3)
      | d q1 q2 q3 => exact .md out q1 q2 (by rw [← sub_congr mem_swap]; exact q3)
      | o q1 q2 q3 => exact .mo out q1 q2 (by rw [← sub_congr mem_swap]; exact q3)
    · obtain ⟨s, e, q⟩ := G.slot j dv h
      exact ⟨s, by rw [List.getElem?_set_ne (Ne.symm ne)]; exact e, q⟩
  · rcases set_get h1 with ⟨a1, l1, _⟩ | ⟨n1, g1⟩
    · subst a1
      rw [List.getElem?_set_self (by rw [G.len]; exact l1)] at h3
      cases h3
      rcases set_get h2 with ⟨a2, _, _⟩ | ⟨n2, g2⟩
      · exact a2.symm
      · rw [List.getElem?_set_ne (Ne.symm n2)] at h4
        exact absurd h4 (np k dk g2)
    · rw [List.getElem?_set_ne (Ne.symm n1)] at h3
      rcases set_get h2 with ⟨a2, l2, _⟩ | ⟨n2, g2⟩
      · subst a2
        rw [List.getElem?_set_self (by rw [G.len]; exact l2)] at h4
        cases h4
        exact absurd h3 (np j dj g1)
      · rw [List.getElem?_set_ne (Ne.symm n2)] at h4
        exact E.apart j k dj dk a g1 g2 h3 h4
/-- a cell of ours is turned: all else stays -/
theorem EnvD.turn (E : EnvD K F own σ δ H) {i : Nat} {a : Addr} {d d' : D} {o o' : HO} (h : δ[i]? = some (.m d)) (hs : σ[i]? = some (some (.ref a))) (ho : H a = some o) (hp : Plain o) (s : Same (sub H [a]) H') (ho' : H' a = some o') (r : RV K F.ls0 (F.ls0 ++ own) H' true (.ref a) d') (hp' : Plain o' := by exact plain_of) : EnvD K F own σ (δ.set i (.m d')) H' := by
  obtain ⟨s0, e1, a', e2, ha, _⟩ := E.slot i _ h
  rw [e1] at hs; cases hs
  cases e2
  have hin : a ∈ F.ls0 ++ own := List.mem_append_right _ ha
  have g : Grow (sub H (F.ls0 ++ own)) (sub H' (F.ls0 ++ own)) := s.butSub hin
  refine ⟨E.same.but (E.new a ha) ho hp s, E.imm.trans g, s.tb fun p hq => TabS.less ho hp (E.tabs p hq), E.new, fun l hl => ?_, E.sep, by rw [List.length_set]; exact E.len, fun j dv hj => ?_, E.lent_set (fun d z => by cases z) (fun _ _ => rfl), E.alone_set (fun d z => by cases z) (fun _ _ => rfl), fun j k dj dk b h1 h2 h3 h4 => ?_⟩
  · by_cases z : l = a
    · exact ⟨o', by rw [z]; exact ho', hp'⟩
    · obtain ⟨u, q, nn⟩ := E.trk l hl
      exact ⟨u, s.ob.get l u (by rw [sub_out (by simpa using z)]; exact q) nn.1, nn⟩
  · rcases set_get hj with ⟨rfl, _, rfl⟩ | ⟨ne, hj⟩
    · exact ⟨_, e1, a, rfl, ha, r⟩
    · obtain ⟨s1, q1, q⟩ := E.slot j dv hj
      refine ⟨s1, q1, ?_⟩
      cases dv with
      | u => trivial
      | v d => obtain ⟨x, q2, r2⟩ := q; exact ⟨x, q2, r2.mono g⟩
      | m d2 =>
        obtain ⟨c, q2, hc, r2⟩ := q
        subst q2
        have nca : c ≠ a := fun z => ne (E.apart j i d2 d a hj h (by rw [q1, z]) e1)
        exact ⟨c, rfl, hc, r2.grow g fun u hu n => s.butAt nca hu n⟩
      | s d2 =>
        obtain ⟨b, C, dx, n, fs, ds, q2, h1, h2, h3, h4, r⟩ := q
        have nba : b ≠ a := fun z => E.sep a ha (by rw [← z]; exact h1)
        exact ⟨b, C, dx, n, fs, ds, q2, h1, h2, h3, s.butAt nba h4, r.mono g⟩
  · have back : ∀ (j : Nat) (dj : D), (δ.set i (.m d'))[j]? = some (.m dj) → ∃ dj', δ[j]? = some (.m dj') := fun j dj q => by
      rcases set_get q with ⟨rfl, _, _⟩ | ⟨_, q⟩
      · exact ⟨d, h⟩
      · exact ⟨dj, q⟩
    obtain ⟨x1, y1⟩ := back j dj h1
    obtain ⟨x2, y2⟩ := back k dk h2
    exact E.apart j k x1 x2 b y1 y2 h3 h4
/-- a cell that is lent to us is turned -/
theorem EnvD.turnS (E : EnvD K F own σ δ H) {i : Nat} {a C dx C1 dx1 : Addr} {d : D} {n : Str} {fs fs' : List (Str × V)} {ds' : List (Str × D)} (h : δ[i]? = some (.s d)) (hs : σ[i]? = some (some (.ref a))) (ho : H a = some (.ins C dx fs)) (s : Same (sub H [a]) H') (hn : PySem.W.nsIn K mainGlobals n = some (some (.ref C1))) (ho' : H' a = some (.ins C1 dx1 fs'))
    (r : RepFs K (sub H' (F.ls0 ++ own)) fs' ds') : EnvD K F own σ (δ.set i (.s (.obj n ds'))) H' := by
  obtain ⟨s0, e1, a', C', dx', n', fs0, ds0, e2, ha, ed, hC, hH, rf⟩ := E.slot i _ h
  rw [e1] at hs; cases hs
  cases e2
  have h0 := E.lent i d a h e1
  have hp : Plain (.ins C dx fs) := plain_of
  have hin : a ∈ F.ls0 ++ own := List.mem_append_left _ ha
  have g : Grow (sub H (F.ls0 ++ own)) (sub H' (F.ls0 ++ own)) := s.butSub hin
  have back : ∀ (j : Nat) (dj : D), (δ.set i (.s (.obj n ds')))[j]? = some (.s dj) → ∃ dj', δ[j]? = some (.s dj') := fun j dj q => by
    rcases set_get q with ⟨rfl, _, _⟩ | ⟨_, q⟩
    · exact ⟨d, h⟩
    · exact ⟨dj, q⟩
  refine ⟨E.same.but h0 ho hp s, E.imm.trans g, s.tb fun p hq => TabS.less ho hp (E.tabs p hq), E.new, fun l hl => ?_, E.sep, by rw [List.length_set]; exact E.len, fun j dv hj => ?_, fun j dj b h1 h2 => ?_, fun j k dj dk b h1 h2 h3 h4 => ?_, fun j k dj dk b h1 h2 h3 h4 => ?_⟩
  · by_cases z : l = a
    · exact ⟨_, by rw [z]; exact ho', plain_of⟩
    · obtain ⟨u, q, nn⟩ := E.trk l hl
      exact ⟨u, s.ob.get l u (by rw [sub_out (by simpa using z)]; exact q) nn.1, nn⟩
  · rcases set_get hj with ⟨rfl, _, rfl⟩ | ⟨ne, hj⟩
    · exact ⟨_, e1, a, C1, dx1, n, fs', ds', rfl, ha, rfl, hn, ho', r⟩
    · obtain ⟨s1, q1, q⟩ := E.slot j dv hj
      refine ⟨s1, q1, ?_⟩
      cases dv with
      | u => trivial
      | v d => obtain ⟨x, q2, r2⟩ := q; exact ⟨x, q2, r2.mono g⟩
      | m d2 =>
        obtain ⟨c, q2, hc, r2⟩ := q
        have nca : c ≠ a := fun z => E.sep c hc (by rw [z]; exact ha)
        exact ⟨c, q2, hc, r2.grow g fun u hu n => s.butAt nca hu n⟩
      | s d2 =>
        obtain ⟨b, C, dx, n, fs, ds, q2, h1, h2, h3, h4, r⟩ := q
        subst q2
        have nba : b ≠ a := fun z => ne (E.alone j i d2 d a hj h (by rw [q1, z]) e1)
        exact ⟨b, C, dx, n, fs, ds, rfl, h1, h2, h3, s.butAt nba h4, r.mono g⟩
  · obtain ⟨x1, y1⟩ := back j dj h1
    exact E.lent j x1 b y1 h2
  · obtain ⟨x1, y1⟩ := back j dj h1
    obtain ⟨x2, y2⟩ := back k dk h2
    exact E.alone j k x1 x2 b y1 y2 h3 h4
  · have bm : ∀ (j : Nat) (dj : D), (δ.set i (.s (.obj n ds')))[j]? = some (.m dj) → δ[j]? = some (.m dj) := fun j dj q => by
      rcases set_get q with ⟨_, _, z⟩ | ⟨_, q⟩
      · cases z
      · exact q
    exact E.apart j k dj dk b (bm j dj h1) (bm k dk h2) h3 h4
/-- a cell of ours is written -/
theorem EnvD.put (E : EnvD K F own σ δ H) {i : Nat} {a : Addr} {d d' : D} {o o' : HO} (h : δ[i]? = some (.m d)) (hs : σ[i]? = some (some (.ref a))) (ho : H a = some o') (r : RV K F.ls0 (F.ls0 ++ own) (upd H a o) true (.ref a) d') (hp : Plain o' := by exact plain_of) (hp2 : Plain o := by exact plain_of) : EnvD K F own σ (δ.set i (.m d')) (upd H a o) :=
  E.turn h hs ho hp same_put upd_same r hp2
/-- a cell of ours is done: plain data from now on; a dict is locked -/
theorem EnvD.fin (E : EnvD K F own σ δ H) {i : Nat} {a : Addr} {d : D} {o : HO} (h : δ[i]? = some (.m d)) (hs : σ[i]? = some (some (.ref a))) (ho : H a = some o) (hp : Plain o) (s : Same (sub H [a]) H') (r : ∀ ls, a ∉ ls → Grow (sub H (F.ls0 ++ own)) (sub H' ls) → Rep K (sub H' ls) (.ref a) d) (hn : ∃ u, H' a = some u ∧ Plain u) :
    ∃ own', EnvD K F own' σ (δ.set i (.v d)) H' := by
  obtain ⟨s0, e1, a', e2, ha, _⟩ := E.slot i _ h
  rw [e1] at hs; cases hs
  cases e2
  have hin : a ∈ F.ls0 ++ own := List.mem_append_right _ ha
  refine ⟨own.filter fun b => decide (b ≠ a), ?_⟩
  have sub' : ∀ b, b ∈ F.ls0 ++ own.filter (fun b => decide (b ≠ a)) → b ∈ F.ls0 ++ own := fun b hb => by
    rcases List.mem_append.mp hb with z | z
    · exact List.mem_append_left _ z
    · exact List.mem_append_right _ (List.mem_filter.mp z).1
  have le : Grow (sub H (F.ls0 ++ own)) (sub H' (F.ls0 ++ own.filter fun b => decide (b ≠ a))) := (s.butSub hin).trans (sub_less sub')
  have out : a ∉ F.ls0 ++ own.filter (fun b => decide (b ≠ a)) := fun z => by
    rcases List.mem_append.mp z with z | z
    · exact E.sep a ha z
    · have := (List.mem_filter.mp z).2
      simp at this
  refine ⟨E.same.but (E.new a ha) ho hp s, E.imm.trans le, s.tb fun p hq => TabS.less ho hp (E.tabs p hq), fun l hl => E.new l (List.mem_filter.mp hl).1, fun l hl => ?_, fun l hl => E.sep l (List.mem_filter.mp hl).1, by rw [List.length_set]; exact E.len, fun j dv hj => ?_, E.lent_set (fun d z => by cases z) (fun _ _ => rfl), E.alone_set (fun d z => by cases z) (fun _ _ => rfl), fun j k dj dk b h1 h2 h3 h4 => ?_⟩
  · by_cases z : l = a
    · obtain ⟨u, e, n⟩ := hn
      exact ⟨u, by rw [z]; exact e, n⟩
    · obtain ⟨u, q, nn⟩ := E.trk l (sub' l hl)
      exact ⟨u, s.ob.get l u (by rw [sub_out (by simpa using z)]; exact q) nn.1, nn⟩
  · rcases set_get hj with ⟨rfl, _, rfl⟩ | ⟨ne, hj⟩
    · exact ⟨_, e1, _, rfl, r _ out le⟩
    · obtain ⟨s1, q1, q⟩ := E.slot j dv hj
      refine ⟨s1, q1, ?_⟩
      cases dv with
      | u => trivial
      | v d => obtain ⟨x, q2, r2⟩ := q; exact ⟨x, q2, r2.mono le⟩
      | m d2 =>
        obtain ⟨c, q2, hc, r2⟩ := q
        subst q2
        have nca : c ≠ a := fun z => ne (E.apart j i d2 d a hj h (by rw [q1, z]) e1)
        exact ⟨c, rfl, List.mem_filter.mpr ⟨hc, by simpa using nca⟩, r2.grow le fun u hu n => s.butAt nca hu n⟩
      | s d2 =>
        obtain ⟨b, C, dx, n, fs, ds, q2, h1, h2, h3, h4, r⟩ := q
        have nba : b ≠ a := fun z => E.sep a ha (by rw [← z]; exact h1)
        exact ⟨b, C, dx, n, fs, ds, q2, h1, h2, h3, s.butAt nba h4, r.mono le⟩
  · rcases set_get h1 with ⟨_, _, z⟩ | ⟨n1, h1⟩
    · cases z
    rcases set_get h2 with ⟨_, _, z⟩ | ⟨n2, h2⟩
    · cases z
    exact E.apart j k dj dk b h1 h2 h3 h4
theorem same_less {a : Addr} : Same (sub H [a]) H := Same.of fun b u q => by
  by_cases hb : b ∈ [a]
  · rw [sub_in hb] at q; cases q
  · rw [sub_out hb] at q; exact q
theorem EnvD.frz (E : EnvD K F own σ δ H) {i : Nat} {d : D} (h : δ[i]? = some (.m d)) (hd : isDic d = false) : ∃ own', EnvD K F own' σ (δ.set i (.v d)) H := by
  obtain ⟨s, e1, a, e2, ha, r⟩ := E.slot i _ h
  subst e2
  obtain ⟨u, hu, nn⟩ := E.trk a (List.mem_append_right _ ha)
  cases r with
  | cl r =>
    -- nothing stands in the cell that is told: it is a name's value as it is
    refine ⟨own, E.same, E.imm, E.tabs, E.new, E.trk, E.sep, by rw [List.length_set]; exact E.len, fun j dv hj => ?_, E.lent_set (fun d z => by cases z) (fun _ _ => rfl), E.alone_set (fun d z => by cases z) (fun _ _ => rfl), fun j k dj dk b h1 h2 h3 h4 => ?_⟩
    · rcases set_get hj with ⟨rfl, _, rfl⟩ | ⟨ne, hj⟩
      · exact ⟨_, e1, _, rfl, r⟩
      · exact E.slot j dv hj
    · rcases set_get h1 with ⟨_, _, z⟩ | ⟨n1, h1⟩
      · cases z
      rcases set_get h2 with ⟨_, _, z⟩ | ⟨n2, h2⟩
      · cases z
      exact E.apart j k dj dk b h1 h2 h3 h4
  | ml p0 p1 p2 p3 => exact E.fin h e1 p1 plain_of same_less (fun ls hl g => .list (by rw [sub_out hl]; exact p1) p2 (p3.mono g)) ⟨_, p1, plain_of⟩
  | md p0 p1 p2 p3 => cases hd
  | mo p0 p1 p2 p3 => exact E.fin h e1 p2 plain_of same_less (fun ls hl g => .obj p1 (by rw [sub_out hl]; exact p2) (p3.mono g)) ⟨_, p2, plain_of⟩
theorem EnvD.dic (E : EnvD K F own σ δ H) {i : Nat} {ds : List (Key × D)} (h : δ[i]? = some (.m (.dict ds))) : ∃ a kvs, σ[i]? = some (some (.ref a)) ∧ a ∈ own ∧ H a = some (.dK kvs) ∧ kvs.length ≤ sizeLine ∧ RepKs K (sub H (F.ls0 ++ own)) kvs ds := by
  obtain ⟨s, e1, a, rfl, ha, r⟩ := E.slot i _ h
  cases r with
  | cl r =>
    cases r with
    | dict h1 _ _ =>
      rw [sub_in (List.mem_append_right _ ha)] at h1; cases h1
  | md n h1 h2 h3 => exact ⟨a, _, e1, ha, h1, h2, h3⟩
theorem EnvD.lockd (E : EnvD K F own σ δ H) {i : Nat} {ds : List (Key × D)} {a : Addr} {kvs : List (Key × V)} (h : δ[i]? = some (.m (.dict ds))) (e1 : σ[i]? = some (some (.ref a))) (ha : H a = some (.dK kvs)) (hz : kvs.length ≤ sizeLine) (hk : RepKs K (sub H (F.ls0 ++ own)) kvs ds) (od : Obj) :
    ∃ own', EnvD K F own' σ (δ.set i (.v (.dict ds))) (upd H a (.frz od (.dK kvs))) :=
  E.fin h e1 ha plain_of same_put (fun ls hl g => .dict (by rw [sub_out hl]; exact upd_same) hz (hk.mono g)) ⟨_, upd_same, plain_of⟩
/-- another floor -/
theorem EnvD.floor (E : EnvD K F own σ δ H) : EnvD K { F with Hi := sub H (F.ls0 ++ own) } own σ δ H := ⟨E.same, Grow.refl _, E.tabs, E.new, E.trk, E.sep, E.len, E.slot, E.lent, E.alone, E.apart⟩
theorem EnvD.unfloor {Hi : Hp} (E : EnvD K { F with Hi := Hi } own σ δ H) (h : Grow F.Hi Hi) : EnvD K F own σ δ H := ⟨E.same, h.trans E.imm, E.tabs, E.new, E.trk, E.sep, E.len, E.slot, E.lent, E.alone, E.apart⟩
end

/-! ### statements -/
structure KD where
  nx : List DV → Prop
  rt : List DV → D → Prop
  bk : List DV → Prop
  ct : List DV → Prop
  er : List DV → Er → Prop
abbrev SM := List DV → KD → Prop
structure LinkS (K : PySem.W.Frag) (W : WX) (F : Fm) (k : KD) (D : Ends) : Prop where
  nx : ∀ σ H own δ, EnvD K F own σ δ H → k.nx δ → D.nx σ H
  rt : ∀ v σ H own δ d, EnvD K F own σ δ H → Rep K (sub H F.ls0) v d → k.rt δ d → D.rt v H
  bk : ∀ σ H own δ, EnvD K F own σ δ H → k.bk δ → D.bk σ H
  ct : ∀ σ H own δ, EnvD K F own σ δ H → k.ct δ → D.ct σ H
  er : ∀ er cls dd σ H own δ, EnvD K F own σ δ H → k.er δ er → RepEr K (F.ls0 ++ own) H cls dd er → W cls dd σ H
def ts (K : PySem.W.Frag) (W : WX) (m : SM) : TS := fun D σ H => ∃ (F : Fm) (own : List Addr) (δ : List DV) (k : KD), EnvD K F own σ δ H ∧ m δ k ∧ LinkS K W F k D
def DS (X : Cx) (W : WX) (st : Stmt) (m : SM) : Prop := PS X st (ts X.K W m)
def DSs (X : Cx) (W : WX) (sts : List Stmt) (m : SM) : Prop := PSs X sts (ts X.K W m)
theorem LinkS.at {K : PySem.W.Frag} {W : WX} {F : Fm} {k : KD} {D : Ends} {σ : L2.St} {H : Hp} {own : List Addr} {δ : List DV} (L : LinkS K W F k D) (E : EnvD K F own σ δ H) : At K W σ H F own δ (k.er δ) :=
  ⟨E, fun er cls dd H' p s r => L.er er cls dd σ H' own δ (E.grow s) p r⟩

section
variable {X : Cx} {W : WX} {a b c e o : Expr} {es rest : List Expr} {st : Stmt} {sts sts' : List Stmt} {ba bb bc : Bool} {ma mb mc : TM} {na nb : BM} {la : LM} {pos : Pos} {m m' : SM}
def sNext : SM := fun δ k => k.nx δ
def sSeq (m m' : SM) : SM := fun δ k => m δ { k with nx := fun δ' => m' δ' k }
theorem dss_nil : DSs X W [] sNext := PSs.imp pss_nil fun D σ H ⟨F, own, δ, k, E, h, L⟩ => L.nx σ H own δ E h
theorem dss_one (h : DS X W st m) : DSs X W [st] m := pss_one h
theorem dss_cons (h : DS X W st m) (h2 : DSs X W sts m') : DSs X W (st :: sts) (sSeq m m') :=
  PSs.imp (pss_cons h h2) fun D σ H ⟨F, own, δ, k, E, h, L⟩ => ⟨F, own, δ, _, E, h, ⟨fun σ' H' own' δ' E' h' => ⟨F, own', δ', k, E', h', L⟩, L.rt, L.bk, L.ct, L.er⟩⟩
/-- a cell of ours is done -/
def frzD (i : Nat) (δ : List DV) : List DV := match δ[i]? with
  | some (.m d) => δ.set i (.v d)
  | _ => δ
def sFrz (i : Nat) (m : SM) : SM := fun δ k => m (frzD i δ) k
theorem dss_frz (i : Nat) (h : DSs X W sts m) : DSs X W sts (sFrz i m) := by
  refine ⟨fun pins s σ H D I ⟨F, own, δ, k, E, q, L⟩ => ?_⟩
  unfold sFrz frzD at q
  split at q
  · rename_i d e
    cases hd : isDic d with
    | false =>
      obtain ⟨own', E'⟩ := E.frz e hd
      exact h.run pins s σ H D I ⟨F, own', _, k, E', q, L⟩
    | true =>
      cases d with
      | dict ds =>
        obtain ⟨a, kvs, e1, ha, h1, h2, h3⟩ := E.dic e
        obtain ⟨od, I2⟩ := Inv.locked I h1
        obtain ⟨own', E'⟩ := E.lockd e e1 h1 h2 h3 od
        exact h.run pins s σ _ D I2 ⟨F, own', _, k, E', q, L⟩
      | _ => cases hd
  · exact h.run pins s σ H D I ⟨F, own, δ, k, E, q, L⟩
def sFalse : SM := fun _ _ => False
theorem dss_never : DSs X W sts sFalse := PSs.imp pss_never fun D σ H ⟨F, own, δ, k, E, h, L⟩ => h
theorem ds_never : DS X W st sFalse := PS.imp ps_never fun D σ H ⟨F, own, δ, k, E, h, L⟩ => h
theorem ds_pass : DS X W (.Pass pos) sNext := PS.imp ps_pass fun D σ H ⟨F, own, δ, k, E, h, L⟩ => L.nx σ H own δ E h
def sBreak : SM := fun δ k => k.bk δ
def sCont : SM := fun δ k => k.ct δ
theorem ds_break : DS X W (.Break pos) sBreak := PS.imp ps_break fun D σ H ⟨F, own, δ, k, E, h, L⟩ => L.bk σ H own δ E h
theorem ds_cont : DS X W (.Continue pos) sCont := PS.imp ps_continue fun D σ H ⟨F, own, δ, k, E, h, L⟩ => L.ct σ H own δ E h
theorem ds_doc {x : Str} {j : Nat} {pos' : Pos} : DS X W (.Expr (.Constant (.str x) j pos) pos') sNext := PS.imp ps_doc fun D σ H ⟨F, own, δ, k, E, h, L⟩ => L.nx σ H own δ E h
def sExpr (ma : TM) : SM := fun δ k => ma δ (fun _ => k.nx δ) (k.er δ)
theorem ds_expr (h : DE X W e ba ma) (hs : swapsWith e none pos.line X.env = pure false := by rfl) : DS X W (.Expr e pos) (sExpr ma) :=
  PS.imp (ps_expr h hs) fun D σ H ⟨F, own, δ, k, E, h, L⟩ => ⟨F, own, δ, _, _, L.at E, h, fun d v H' p s r => L.nx σ H' own δ (E.grow s) p⟩
def sRet (ma : TM) : SM := fun δ k => ma δ (k.rt δ) (k.er δ)
theorem RV.out {K : PySem.W.Frag} {F : Fm} {own : List Addr} {H' : Hp} {b : Bool} {v : V} {d : D} (hd : b = false ∨ isDic d = false) (r : RV K F.ls0 (F.ls0 ++ own) H' b v d) : Rep K (sub H' F.ls0) v d := by
  have le : Grow (sub H' (F.ls0 ++ own)) (sub H' F.ls0) := sub_less fun a h => List.mem_append_left _ h
  cases r with
  | cl r => exact r.mono le
  | ml n h l r => exact .list (by rw [sub_out n]; exact h) l (r.mono le)
  | md n h l r => rcases hd with z | z <;> cases z
  | mo n c h r => exact .obj c (by rw [sub_out n]; exact h) (r.mono le)
theorem ds_ret (h : DE X W e false ma) : DS X W (.Return (some e) pos) (sRet ma) :=
  PS.imp (ps_ret h) fun D σ H ⟨F, own, δ, k, E, h, L⟩ => ⟨F, own, δ, _, _, L.at E, h, fun d v H' p s r => L.rt v σ H' own δ d (E.grow s) (r.out (.inl rfl)) p⟩
def sRetN : SM := fun δ k => k.rt δ .none
theorem ds_retN : DS X W (.Return none pos) sRetN := PS.imp ps_retN fun D σ H ⟨F, own, δ, k, E, h, L⟩ => L.rt .non σ H own δ .none E .non h
def sIf (na : BM) (m m' : SM) : SM := fun δ k => na δ (fun c => if c = true then m δ k else m' δ k) (k.er δ)
theorem ds_if (hc : DT X W c na) (ha : DSs X W sts m) (hb : DSs X W sts' m') : DS X W (.If c sts sts' pos) (sIf na m m') :=
  PS.imp (ps_if hc ha hb) fun D σ H ⟨F, own, δ, k, E, h, L⟩ => ⟨F, own, δ, _, _, L.at E, h, fun c H' p s => by
    cases c with
    | true => exact iteT ⟨F, own, δ, k, E.grow s, (by simpa using p), L⟩
    | false => exact iteF ⟨F, own, δ, k, E.grow s, (by simpa using p), L⟩⟩

/-! ### targets -/
abbrev GM := D → List DV → (List DV → Prop) → Prop
abbrev GMs := List D → List DV → (List DV → Prop) → Prop
def tgm (K : PySem.W.Frag) (g : GM) : TG := fun v σ H Q => ∃ (F : Fm) (own : List Addr) (δ : List DV) (d : D) (P : List DV → Prop), EnvD K F own σ δ H ∧ Rep K (sub H (F.ls0 ++ own)) v d ∧ g d δ P ∧ ∀ σ' δ', EnvD K F own σ' δ' H → P δ' → Q σ' H
def tgms (K : PySem.W.Frag) (g : GMs) : TGs := fun vs σ H Q => ∃ (F : Fm) (own : List Addr) (δ : List DV) (ds : List D) (P : List DV → Prop), EnvD K F own σ δ H ∧ Reps K (sub H (F.ls0 ++ own)) vs ds ∧ g ds δ P ∧ ∀ σ' δ', EnvD K F own σ' δ' H → P δ' → Q σ' H
def DG (X : Cx) (e : Expr) (g : GM) : Prop := PG X e (tgm X.K g)
def DGs (X : Cx) (es : List Expr) (g : GMs) : Prop := PGs X es (tgms X.K g)
theorem PG.imp {X : Cx} {e : Expr} {t t' : TG} (h : PG X e t) (k : ∀ v σ H Q, t' v σ H Q → t v σ H Q) : PG X e t' := ⟨fun pins s σ H v u Q I r q => h.run pins s σ H v u Q I r (k _ _ _ _ q)⟩
theorem PGs.imp {X : Cx} {e : List Expr} {t t' : TGs} (h : PGs X e t) (k : ∀ v σ H Q, t' v σ H Q → t v σ H Q) : PGs X e t' := ⟨fun pins s σ H v u Q I r q => h.run pins s σ H v u Q I r (k _ _ _ _ q)⟩
def gN (i : Nat) : GM := fun d δ P => P (δ.set i (.v d))
theorem dg_name (i : Nat) {x : Str} (h : PG X (.Name x pos) (gName i)) : DG X (.Name x pos) (gN i) := PG.imp h fun v σ H Q ⟨F, own, δ, d, P, E, r, g, q⟩ => q _ _ (E.set i r) g
def gsNil : GMs := fun ds δ P => ds = [] ∧ P δ
def gsCons (g : GM) (gs : GMs) : GMs := fun ds δ P => ∃ d r, ds = d :: r ∧ g d δ fun δ' => gs r δ' P
theorem dgs_nil : DGs X [] gsNil := PGs.imp pgs_nil fun vs σ H Q ⟨F, own, δ, ds, P, E, r, g, q⟩ => by
  obtain ⟨rfl, g⟩ := g
  cases r
  exact ⟨rfl, q _ _ E g⟩
theorem dgs_cons {g : GM} {gs : GMs} (h1 : DG X e g) (h2 : DGs X es gs) (hs : (assignEach (e :: es) X.env).map (·.2) = assign e X.env :: (assignEach es X.env).map (·.2) := by rfl) : DGs X (e :: es) (gsCons g gs) :=
  PGs.imp (pgs_cons h1 h2 hs) fun vs σ H Q ⟨F, own, δ, ds, P, E, r, g, q⟩ => by
    obtain ⟨d, dr, rfl, g⟩ := g
    cases r with
    | cons r rr => exact ⟨_, _, rfl, F, own, δ, d, _, E, r, g, fun σ' δ' E' g' => ⟨F, own, δ', dr, P, E', rr, g', q⟩⟩
def gT (n : Nat) (gs : GMs) : GM := fun d δ P => ∃ ds, d = .tup ds ∧ ds.length = n ∧ gs ds δ P
theorem dg_tup {j : Nat} {gs : GMs} {n : Nat} (hc : X.calm = true) (h : DGs X es gs) (hn : (assignEach es X.env).length = n := by rfl) (hst : (assignEach es X.env).findIdx? (·.1) = none := by rfl) : DG X (.Tuple es j pos) (gT n gs) :=
  PG.imp (pg_tup hc h hn hst) fun v σ H Q ⟨F, own, δ, d, P, E, r, g, q⟩ => by
    obtain ⟨ds, rfl, hl, g⟩ := g
    cases r with
    | tup h1 h2 h3 => exact ⟨_, _, rfl, sameT sub_le h1, by rw [h3.length]; exact hl, F, own, δ, ds, P, E, h3, g, q⟩

/-! ### stores -/
def sAsg (ma : TM) (g : GM) : SM := fun δ k => ma δ (fun d => g d δ k.nx) (k.er δ)
theorem ds_asg {tg : Expr} {g : GM} (he : DE X W e false ma) (hg : DG X tg g) (hs : swapsWithSole [tg] e pos.line X.env = pure false := by rfl) (hw : swappedStores [tg] e X.env = pure none := by rfl)
    (h1 : (assignEach [tg] X.env).map (·.2) = [assign tg X.env] := by rfl) : DS X W (.Assign [tg] e pos) (sAsg ma g) :=
  PS.imp (ps_asg he hg hs hw h1) fun D σ H ⟨F, own, δ, k, E, h, L⟩ => ⟨F, own, δ, _, _, L.at E, h, fun d v H' p s r =>
    ⟨F, own, δ, d, _, E.grow s, r.clean, p, fun σ' δ' E' q => L.nx σ' H' own δ' E' q⟩⟩
def sSet (i : Nat) (ma : TM) : SM := fun δ k => ma δ (fun d => k.nx (δ.set i (.v d))) (k.er δ)
theorem ds_set (i : Nat) {x : Str} {pos' : Pos} (hN : X.N.Nodup) (he : DE X W e false ma) (hi : X.N[i]? = some x := by rfl) (hx : Loc X.env.scope x := by first | exact .inl rfl | exact .inr rfl) (hs : swapsWith e (some (.Name x pos')) pos.line X.env = pure false := by rfl)
    (hf : X.fn x = true ∨ X.env.scope.names.lookup x = some .local := by first | exact .inl rfl | exact .inr rfl) : DS X W (.Assign [.Name x pos'] e pos) (sSet i ma) :=
  PS.imp (ps_set hN hi hx he hs hf) fun D σ H ⟨F, own, δ, k, E, h, L⟩ => ⟨F, own, δ, _, _, L.at E, h, fun d v H' p s r => L.nx _ H' own _ ((E.grow s).set i r.clean) p⟩
def sSetM (i : Nat) (ma : TM) : SM := fun δ k => ma δ (fun d => k.nx (δ.set i (.m d))) (k.er δ)
theorem ds_setm (i : Nat) {x : Str} {pos' : Pos} (hN : X.N.Nodup) (he : DF X W e ma) (hi : X.N[i]? = some x := by rfl) (hx : Loc X.env.scope x := by first | exact .inl rfl | exact .inr rfl) (hs : swapsWith e (some (.Name x pos')) pos.line X.env = pure false := by rfl)
    (hf : X.fn x = true ∨ X.env.scope.names.lookup x = some .local := by first | exact .inl rfl | exact .inr rfl) : DS X W (.Assign [.Name x pos'] e pos) (sSetM i ma) :=
  PS.imp (ps_set hN hi hx he hs hf) fun D σ H ⟨F, own, δ, k, E, h, L⟩ => ⟨F, own, δ, _, _, L.at E, h, fun d p H' pd hp s r => L.nx _ H' (p :: own) _ (E.setm i hp s r) pd⟩
def sPar (i j : Nat) (la : LM) : SM := fun δ k => la δ (fun ds => ∃ d e, ds = [d, e] ∧ k.nx ((δ.set i (.v d)).set j (.v e))) (k.er δ)
theorem ds_par (i j : Nat) {x y : Str} {px py pt : Pos} {kt k2 : Nat} {pt2 : Pos} (hc : X.calm = true) (hN : X.N.Nodup) (ha : DA X W [a, b] false la) (hi : X.N[i]? = some x := by rfl) (hj : X.N[j]? = some y := by rfl) (hij : i ≠ j := by decide)
    (hx : X.env.scope.names.lookup x = some .local := by rfl) (hy : X.env.scope.names.lookup y = some .local := by rfl)
    (hw : swappedStores [.Tuple [.Name x px, .Name y py] kt pt] (.Tuple [a, b] k2 pt2) X.env = pure (some [x, y]) := by rfl)
    (hs : swapsWithSole [.Tuple [.Name x px, .Name y py] kt pt] (.Tuple [a, b] k2 pt2) pos.line X.env = pure false := by rfl) : DS X W (.Assign [.Tuple [.Name x px, .Name y py] kt pt] (.Tuple [a, b] k2 pt2) pos) (sPar i j la) :=
  PS.imp (ps_par hc hN hi hj hij hx hy ha hw hs) fun D σ H ⟨F, own, δ, k, E, h, L⟩ => ⟨F, own, δ, _, _, L.at E, h, fun ds vs H' p s r => by
    obtain ⟨d, e, rfl, p⟩ := p
    have r := r.clean
    cases r with
    | cons r1 r => cases r with
      | cons r2 r => cases r; exact ⟨_, _, rfl, L.nx _ H' own _ (((E.grow s).set i r1).set j r2) p⟩⟩

end
end DL

set_option Elab.async false
set_option linter.all false
set_option maxRecDepth 100000
set_option maxHeartbeats 4000000
/-! DL4: append, loops, comprehensions. -/
namespace DL
open PySem PySem.Spec PyProof.Rows L2
variable [TabsC]

section
variable {X : Cx} {W : WX} {a b c e o : Expr} {es rest : List Expr} {st : Stmt} {sts sts' : List Stmt} {ba bb bc : Bool} {ma mb mc : TM} {na nb : BM} {la : LM} {pos : Pos} {m m' : SM}
/-! ### a list of one's own grows -/
def sApp (i : Nat) (ma : TM) : SM := fun δ k => ∃ ds, δ[i]? = some (.m (.list ds)) ∧ ma δ (fun d => ds.length < sizeLine ∧ k.nx (δ.set i (.m (.list (ds ++ [d]))))) (k.er δ)
theorem mut_list {K : PySem.W.Frag} {F : Fm} {own : List Addr} {σ : L2.St} {δ : List DV} {H : Hp} {i : Nat} {ds : List D} (E : EnvD K F own σ δ H) (h : δ[i]? = some (.m (.list ds))) :
    ∃ a xs, σ[i]? = some (some (.ref a)) ∧ a ∈ own ∧ H a = some (.lst xs) ∧ xs.length ≤ sizeLine ∧ Reps K (sub H (F.ls0 ++ own)) xs ds := by
  obtain ⟨s, e1, a, rfl, ha, r⟩ := E.slot i _ h
  obtain ⟨a', xs, e2, h1, h2, h3⟩ := r.list
  cases e2
  exact ⟨a, xs, e1, ha, h1, h2, h3⟩
theorem ds_app (i : Nat) {x : Str} {p apos cpos : Pos} (ho : PE X (.Name x p) (tVar i)) (he : DE X W e false ma)
    (hbase : attributeBase (.Name x p) "append" X.env (eval (.Name x p) X.env) = eval (.Name x p) X.env := by rfl)
    (hfew : ((backTo cpos (starEach [e] X.env)).all (fun x => !x.1) && (backToKw cpos (keywordEach [] X.env)).all (fun x => x.1.isSome) && decide (([e] : List Expr).length + ([] : List Keyword).length + (if ([] : List Keyword).isEmpty then 0 else 1) < 30)) = true := by rfl)
    (hline : (apos.endLine == cpos.line) = true := by rfl) (hs : starEach [e] X.env = (false, eval e X.env) :: starEach [] X.env := by rfl)
    (hplain : (backTo cpos (starEach [] X.env)).any (·.1) = false := by rfl) (hsw : swapsWith (.Call (.Attribute (.Name x p) "append" apos) [e] [] cpos) none pos.line X.env = pure false := by rfl) :
    DS X W (.Expr (.Call (.Attribute (.Name x p) "append" apos) [e] [] cpos) pos) (sApp i ma) :=
  PS.imp (ps_expr (pe_bm PySem.F.plainAttrs_list PySem.F.slot_list_append PySem.F.type_list_append mt_append ho (pa_cons he pa_nil hs) hbase hfew hline hs hplain) hsw) fun D σ H ⟨F, own, δ, k, E, h, L⟩ => by
    obtain ⟨ds, hd, h⟩ := h
    obtain ⟨a, xs, e1, ha, h1, h2, h3⟩ := mut_list E hd
    refine ⟨_, e1, .inl ⟨rfl, _, .of h1⟩, F, own, δ, _, _, L.at E, h, fun d v H' p s r => ?_⟩
    obtain ⟨hl, p⟩ := p
    have h1' := s _ _ h1
    have hl' : xs.length < sizeLine := by rw [h3.length]; exact hl
    have es : sub (upd H' a (.lst (xs ++ [v]))) (F.ls0 ++ own) = sub H' (F.ls0 ++ own) := sub_upd (List.mem_append_right _ ha)
    refine ⟨a, xs, v, rfl, rfl, h1', hl', L.nx _ _ own _ ((E.grow s).put hd e1 h1' (.ml (E.sep a ha) upd_same ?_ ?_)) p⟩
    · rw [List.length_append, List.length_singleton]; omega
    · rw [es]
      exact (h3.mono (sub_same s)).append (.cons r.clean .nil)
def sExt (i : Nat) (ma : TM) : SM := fun δ k => ∃ ds, δ[i]? = some (.m (.list ds)) ∧ ma δ (fun d => ∃ es, d = .list es ∧ ds.length + es.length ≤ sizeLine ∧ k.nx (δ.set i (.m (.list (ds ++ es))))) (k.er δ)
theorem ds_ext (i : Nat) {x : Str} {p apos cpos : Pos} (ho : PE X (.Name x p) (tVar i)) (he : DE X W e ba ma)
    (hbase : attributeBase (.Name x p) "extend" X.env (eval (.Name x p) X.env) = eval (.Name x p) X.env := by rfl)
    (hfew : ((backTo cpos (starEach [e] X.env)).all (fun x => !x.1) && (backToKw cpos (keywordEach [] X.env)).all (fun x => x.1.isSome) && decide (([e] : List Expr).length + ([] : List Keyword).length + (if ([] : List Keyword).isEmpty then 0 else 1) < 30)) = true := by rfl)
    (hline : (apos.endLine == cpos.line) = true := by rfl) (hs : starEach [e] X.env = (false, eval e X.env) :: starEach [] X.env := by rfl)
    (hplain : (backTo cpos (starEach [] X.env)).any (·.1) = false := by rfl) (hsw : swapsWith (.Call (.Attribute (.Name x p) "extend" apos) [e] [] cpos) none pos.line X.env = pure false := by rfl) :
    DS X W (.Expr (.Call (.Attribute (.Name x p) "extend" apos) [e] [] cpos) pos) (sExt i ma) :=
  PS.imp (ps_expr (pe_bm PySem.F.plainAttrs_list PySem.F.slot_list_extend PySem.F.type_list_extend mt_extend ho (pa_cons he pa_nil hs) hbase hfew hline hs hplain) hsw) fun D σ H ⟨F, own, δ, k, E, h, L⟩ => by
    obtain ⟨ds, hd, h⟩ := h
    obtain ⟨a, xs, e1, ha, h1, h2, h3⟩ := mut_list E hd
    refine ⟨_, e1, .inl ⟨rfl, _, .of h1⟩, F, own, δ, _, _, L.at E, h, fun d v H' p s r => ?_⟩
    obtain ⟨es, rfl, hl, p⟩ := p
    have h1' := s _ _ h1
    obtain ⟨b, ys, rfl, q1, q2, q3⟩ := r.list
    have hl' : xs.length + ys.length ≤ sizeLine := by rw [h3.length, q3.length]; exact hl
    have es : sub (upd H' a (.lst (xs ++ ys))) (F.ls0 ++ own) = sub H' (F.ls0 ++ own) := sub_upd (List.mem_append_right _ ha)
    refine ⟨a, b, xs, ys, rfl, rfl, h1', q1, hl', L.nx _ _ own _ ((E.grow s).put hd e1 h1' (.ml (E.sep a ha) upd_same ?_ ?_)) p⟩
    · rw [List.length_append]; exact hl'
    · rw [es]
      exact (h3.mono (sub_same s)).append q3

/-! ### what is walked -/
structure ItOk (K : PySem.W.Frag) (J : It) (Hg Hb : Hp) (ds : List D) : Prop where
  sz : ds.length ≤ sizeLine
  go : ∀ (i : Nat) H, Grow Hg H → i < ds.length → J.go i H
  stop : ∀ (i : Nat) H, Grow Hg H → i = ds.length → J.stop i H
  yld : ∀ (i : Nat) H x H' ls, Grow Hg H → Grow Hb (sub H ls) → (∀ l, l ∈ ls → ∃ o, H l = some o ∧ Plain o) → i < ds.length → J.yld i H x H' → ∃ d, ds[i]? = some d ∧ Same H H' ∧ Rep K (sub H' ls) x d
theorem ItOk.mono {K : PySem.W.Frag} {J : It} {Hg Hg' Hb : Hp} {ds : List D} (h : ItOk K J Hg Hb ds) (e : Grow Hg Hg') : ItOk K J Hg' Hb ds :=
  ⟨h.sz, fun i H s => h.go i H (e.trans s), fun i H s => h.stop i H (e.trans s), fun i H x H' ls s => h.yld i H x H' ls (e.trans s)⟩
def flo (b : Bool) (H : Hp) (ls : List Addr) : Hp := if b = true then H else sub H ls
def ti (K : PySem.W.Frag) (W : WX) (b : Bool) (mi : LM) : TI := fun σ H R => ∃ (F : Fm) (own : List Addr) (δ : List DV) (P : List D → Prop) (EK : Er → Prop), At K W σ H F own δ EK ∧ mi δ P EK ∧
  ∀ ds J H1, P ds → Same H H1 → ItOk K J (flo b H1 (F.ls0 ++ own)) (sub H1 (F.ls0 ++ own)) ds → R J H1
def DI (X : Cx) (W : WX) (tg it : Expr) (b : Bool) (mi : LM) : Prop := PI X tg it (ti X.K W b mi)
theorem PI.imp {X : Cx} {tg e : Expr} {t t' : TI} (h : PI X tg e t) (k : ∀ σ H Q, t' σ H Q → t σ H Q) : PI X tg e t' := ⟨fun pins s σ H Q I q => h.run pins s σ H Q I (k _ _ _ q)⟩
theorem itok_list {K : PySem.W.Frag} {Hg Hb : Hp} {a : Addr} {xs : List V} {ds : List D} (h : Hg a = some (.lst xs)) (hz : xs.length ≤ sizeLine) (r : Reps K Hb xs ds) : ItOk K (Itl K a) Hg Hb ds where
  sz := by rw [← r.length]; exact hz
  go := fun i H s hi => ⟨xs, xs[i]'(by rw [r.length]; exact hi), .of (s _ _ h), List.getElem?_eq_getElem _⟩
  stop := fun i H s hi => ⟨xs, .of (s _ _ h), by rw [r.length]; omega⟩
  yld := fun i H x H' ls s sb ht hi ⟨e, y⟩ => by
    subst e
    obtain ⟨d, e, r'⟩ := r.get (y xs (.of (s _ _ h)))
    exact ⟨d, e, Same.refl _, r'.mono sb⟩
theorem itok_tup {K : PySem.W.Frag} {Hg Hb : Hp} {a : Addr} {xs : List V} {ds : List D} (h : SqT K Hg a xs) (hz : xs.length ≤ sizeLine) (r : Reps K Hb xs ds) : ItOk K (Itt K a) Hg Hb ds where
  sz := by rw [← r.length]; exact hz
  go := fun i H s hi => ⟨xs, xs[i]'(by rw [r.length]; exact hi), sameT s h, List.getElem?_eq_getElem _⟩
  stop := fun i H s hi => ⟨xs, sameT s h, by rw [r.length]; omega⟩
  yld := fun i H x H' ls s sb ht hi ⟨e, y⟩ => by
    subst e
    obtain ⟨d, e, r'⟩ := r.get (y xs (sameT s h))
    exact ⟨d, e, Same.refl _, r'.mono sb⟩
def mSeq (ma : TM) : LM := fun δ P E => ma δ (fun d => (∃ ds, d = .list ds ∧ P ds) ∨ (∃ ds, d = .tup ds ∧ P ds)) E
theorem flo_list {H : Hp} {b : Bool} {K : PySem.W.Frag} {fo ls : List Addr} {v : V} {ds : List D} (r : RV K fo ls H b v (.list ds)) : ∃ a xs, v = .ref a ∧ flo b H ls a = some (.lst xs) ∧ xs.length ≤ sizeLine ∧ Reps K (sub H ls) xs ds := by
  cases r with
  | cl r =>
    cases r with
    | list h l r =>
      refine ⟨_, _, rfl, ?_, l, r⟩
      unfold flo
      split
      · exact sub_le _ _ h
      · exact h
  | ml n h l r => exact ⟨_, _, rfl, h, l, r⟩
theorem flo_tup {H : Hp} {b : Bool} {K : PySem.W.Frag} {fo ls : List Addr} {v : V} {ds : List D} (r : RV K fo ls H b v (.tup ds)) : ∃ a xs, v = .ref a ∧ SqT K (flo b H ls) a xs ∧ xs.length ≤ sizeLine ∧ Reps K (sub H ls) xs ds := by
  cases r with
  | cl r =>
    cases r with
    | tup h l r =>
      refine ⟨_, _, rfl, ?_, l, r⟩
      unfold flo
      split
      · exact sameT sub_le h
      · exact h
theorem flo_le {H : Hp} {b : Bool} {ls : List Addr} : Grow (flo b H ls) H := by
  unfold flo
  split
  · exact Grow.refl _
  · exact sub_le
theorem di_seq {tg : Expr} (he : DE X W e ba ma) : DI X W tg e ba (mSeq ma) := by
  refine ⟨fun pins s σ H R I ⟨F, own, δ, P, EK, A, m, q⟩ => ?_⟩
  have hr := he.run pins s σ H (fun v H1 => Same H H1 ∧ ((∃ a xs ds, v = .ref a ∧ flo ba H1 (F.ls0 ++ own) a = some (.lst xs) ∧ xs.length ≤ sizeLine ∧ Reps X.K (sub H1 (F.ls0 ++ own)) xs ds ∧ P ds) ∨
    (∃ a xs ds, v = .ref a ∧ SqT X.K (flo ba H1 (F.ls0 ++ own)) a xs ∧ xs.length ≤ sizeLine ∧ Reps X.K (sub H1 (F.ls0 ++ own)) xs ds ∧ P ds))) I ⟨F, own, δ, _, EK, A, m, fun d v H1 p s1 r => ⟨s1, by
      rcases p with ⟨ds, rfl, p⟩ | ⟨ds, rfl, p⟩
      · obtain ⟨a, xs, rfl, h1, h2, h3⟩ := flo_list r
        exact .inl ⟨a, xs, ds, rfl, h1, h2, h3, p⟩
      · obtain ⟨a, xs, rfl, h1, h2, h3⟩ := flo_tup r
        exact .inr ⟨a, xs, ds, rfl, h1, h2, h3, p⟩⟩⟩
  refine thn hr fun v s1 ⟨x, H1, I1, r1, s01, q1⟩ => ?_
  have fresh : ∀ bb, bb ∈ [s1.heap.objs.size] → FpOk X pins H1 bb := fun bb hb => by
    obtain rfl := List.mem_singleton.mp hb
    exact I1.fpOk (Nat.le_refl _) (I1.hok.fresh (Nat.le_refl _))
  have pushed : ∀ ob : Obj, Inv X pins σ H1 { s1 with heap := s1.heap.push ob } := fun ob => I1.kept (t' := s1.toks) fun b o q => Heap.get?_push_of_some _ q
  rcases q1 with ⟨a, xs, ds, rfl, h1, h2, h3, p⟩ | ⟨a, xs, ds, rfl, h1, h2, h3, p⟩
  · cases r1
    obtain ⟨its, rv, pl, hz⟩ := I1.list (SqL.of (flo_le _ _ h1))
    refine wpAny_pyIter_list pl.isList ⟨_, [s1.heap.objs.size], _, _, H1, rfl, pushed _, turn_list a _, ⟨_, Heap.get?_push_size _ rfl, rfl, rfl⟩, fresh, q ds _ H1 p s01 (itok_list h1 h2 h3)⟩
  · cases r1
    obtain ⟨its, rv, pl, hz⟩ := I1.tuple (sameT flo_le h1)
    refine wpAny_pyIter_tuple (show s1.heap.IsTuple a its.toArray from pl) ⟨_, [s1.heap.objs.size], _, _, H1, rfl, pushed _, turn_tuple a _, ⟨_, Heap.get?_push_size _ rfl, rfl, rfl⟩, fresh, q ds _ H1 p s01 (itok_tup h1 h2 h3)⟩
/-- ranges -/
def rangeD (lo : Int) (n : Nat) : List D := (List.range n).map fun i => D.int (lo + (i : Nat))
theorem rangeD_length (lo : Int) (n : Nat) : (rangeD lo n).length = n := by unfold rangeD; rw [List.length_map, List.length_range]
theorem itok_range {K : PySem.W.Frag} {Hg Hb : Hp} {lo : Int} {n : Nat} (hz : n ≤ sizeLine) : ItOk K (Itr lo n) Hg Hb (rangeD lo n) where
  sz := by rw [rangeD_length]; exact hz
  go := fun i H s hi => by rw [rangeD_length] at hi; exact hi
  stop := fun i H s hi => by rw [rangeD_length] at hi; show n ≤ i; omega
  yld := fun i H x H' ls s sb ht hi ⟨e, y⟩ => by
    subst e y
    rw [rangeD_length] at hi
    refine ⟨.int (lo + i), ?_, Same.refl _, .int _⟩
    unfold rangeD
    rw [List.getElem?_map, List.getElem?_range hi]
    rfl
theorem RVs.one {K : PySem.W.Frag} {fo ls : List Addr} {H : Hp} {b : Bool} {vs : List V} {d : D} (r : RVs K fo ls H b vs [d]) : ∃ v, vs = [v] ∧ RV K fo ls H b v d := by
  cases r with
  | cons r t => cases t; exact ⟨_, rfl, r⟩
theorem RVs.two {K : PySem.W.Frag} {fo ls : List Addr} {H : Hp} {b : Bool} {vs : List V} {d d' : D} (r : RVs K fo ls H b vs [d, d']) : ∃ v v', vs = [v, v'] ∧ RV K fo ls H b v d ∧ RV K fo ls H b v' d' := by
  cases r with
  | cons r t => cases t with
    | cons r' t => cases t; exact ⟨_, _, rfl, r, r'⟩
theorem line62 {j : Int} {lo : Int} (h : (j - lo).toNat ≤ sizeLine) (h0 : -(2 ^ 61) ≤ lo) (h1 : lo < 2 ^ 61) (h2 : -(2 ^ 61) ≤ j) : -(2 ^ 62) ≤ lo ∧ lo < 2 ^ 62 ∧ -(2 ^ 62) ≤ j ∧ j < 2 ^ 62 := by
  rw [sizeLine_eq] at h
  omega
def mRange1 (la : LM) : LM := fun δ P E => la δ (fun ds => ∃ j : Int, ds = [.int j] ∧ -(2 ^ 61) ≤ j ∧ j.toNat ≤ sizeLine ∧ P (rangeD 0 j.toNat)) E
def mRange2 (la : LM) : LM := fun δ P E => la δ (fun ds => ∃ i j : Int, ds = [.int i, .int j] ∧ -(2 ^ 61) ≤ i ∧ i < 2 ^ 61 ∧ -(2 ^ 61) ≤ j ∧ (j - i).toNat ≤ sizeLine ∧ P (rangeD i (j - i).toNat)) E
theorem di_range1 {tg : Expr} {p : Pos} (hg : Gl X "range") (hm : X.mg "range" = none) (ha : DA X W [a] true la) (hs : starEach [a] X.env = [(false, eval a X.env)] := by rfl) : DI X W tg (.Call (.Name "range" p) [a] [] pos) ba (mRange1 la) :=
  PI.imp (pi_range1 hg hm ha hs) fun σ H R ⟨F, own, δ, P, EK, A, m, q⟩ => ⟨F, own, δ, _, EK, A, m, fun ds vs H1 p s r => by
    obtain ⟨j, rfl, h0, h1, p⟩ := p
    obtain ⟨v, rfl, rq⟩ := r.one
    have b := line62 (j := j) (lo := 0) (by simpa using h1) (by decide) (by decide) h0
    exact ⟨j, by rw [rq.isInt], b.2.2.1, b.2.2.2, q _ _ H1 p s (itok_range h1)⟩⟩
theorem di_range2 {tg : Expr} {p : Pos} (hg : Gl X "range") (hm : X.mg "range" = none) (ha : DA X W [a, b] true la) (hs : starEach [a, b] X.env = [(false, eval a X.env), (false, eval b X.env)] := by rfl) (hs2 : starEach [b] X.env = [(false, eval b X.env)] := by rfl) : DI X W tg (.Call (.Name "range" p) [a, b] [] pos) ba (mRange2 la) :=
  PI.imp (pi_range2 hg hm ha hs hs2) fun σ H R ⟨F, own, δ, P, EK, A, m, q⟩ => ⟨F, own, δ, _, EK, A, m, fun ds vs H1 p s r => by
    obtain ⟨i, j, rfl, h0, h1, h2, h3, p⟩ := p
    obtain ⟨v, v', rfl, rq, rq'⟩ := r.two
    have b := line62 (j := j) (lo := i) h3 h0 h1 h2
    exact ⟨i, j, by rw [rq.isInt, rq'.isInt], b, q _ _ H1 p s (itok_range h3)⟩⟩
/-- a text, sign by sign -/
def signsD (x : Str) : List D := x.cps.toList.map fun c => D.str ⟨#[c]⟩
theorem itok_str {K : PySem.W.Frag} {Hg Hb : Hp} {x : Str} (hz : x.length ≤ sizeLine) : ItOk K (Its x) Hg Hb (signsD x) where
  sz := by unfold signsD; rw [List.length_map]; simpa [Str.length] using hz
  go := fun i H s hi => by unfold signsD at hi; rw [List.length_map] at hi; show i < x.cps.size; simpa using hi
  stop := fun i H s hi => by unfold signsD at hi; rw [List.length_map] at hi; show x.cps.size ≤ i; simp at hi; omega
  yld := fun i H v H' ls s sb ht hi ⟨e, c, ec, y⟩ => by
    subst e y
    refine ⟨.str ⟨#[c]⟩, ?_, Same.refl _, .str _⟩
    unfold signsD
    rw [List.getElem?_map, Array.getElem?_toList, ec]
    rfl
def mSigns (ma : TM) : LM := fun δ P E => ma δ (fun d => ∃ x, d = .str x ∧ x.length ≤ sizeLine ∧ P (signsD x)) E
theorem di_str {tg : Expr} (he : DE X W e bb ma) : DI X W tg e ba (mSigns ma) :=
  PI.imp (pi_str he) fun σ H R ⟨F, own, δ, P, EK, A, m, q⟩ => ⟨F, own, δ, _, EK, A, m, fun d v H1 p s r => by
    obtain ⟨x, rfl, hz, p⟩ := p
    exact ⟨x, r.isStr, q _ _ H1 p s (itok_str hz)⟩⟩

/-! ### loops -/
def forL (g : GM) (mb : SM) : List D → SM
  | [] => fun δ k => k.nx δ
  | d :: ds => fun δ k => g d δ fun δ' => mb δ' { k with nx := fun δ'' => forL g mb ds δ'' k, ct := fun δ'' => forL g mb ds δ'' k, bk := k.nx }
def sFor (mi : LM) (g : GM) (mb : SM) : SM := fun δ k => mi δ (fun ds => forL g mb ds δ k) (k.er δ)
theorem drop_get {α : Type} {l : List α} {i : Nat} {x : α} (h : l[i]? = some x) : l.drop i = x :: l.drop (i + 1) := by
  obtain ⟨hi, e⟩ := List.getElem?_eq_some_iff.mp h
  rw [← e]
  exact List.drop_eq_getElem_cons hi
theorem ds_for {tg it : Expr} {mi : LM} {g : GM} (hp : PassesOwn (model X.prog X.w) X.A X.env X.xe) (hc : X.calm = true) (hi : DI X W tg it false mi) (hg : DG X tg g) (hb : DSs X W sts m) (hs : ∀ x, foldedSetIterable it X.env x = pure x := by intro _; rfl) :
    DS X W (.For tg it sts [] pos) (sFor mi g m) :=
  PS.imp (ps_for hp hc hi hg hb hs) fun D σ H ⟨F, own, δ, k, E, h, L⟩ => by
    refine ⟨F, own, δ, _, _, L.at E, h, fun ds J H1 hds s1 ok => ?_⟩
    have E1 := E.grow s1
    refine ⟨fun i n σ H => n = ds.length - i ∧ i ≤ ds.length ∧ ∃ own' δ', EnvD X.K { F with Hi := sub H1 (F.ls0 ++ own) } own' σ δ' H ∧ forL g m (ds.drop i) δ' k, ⟨_, rfl, Nat.zero_le _, own, δ, E1.floor, hds⟩, ?_⟩
    rintro i n σ2 H2 ⟨rfl, hi2, own2, δ2, E2, q2⟩
    have sg : Grow (sub H1 (F.ls0 ++ own)) H2 := E2.imm.trans sub_le
    by_cases hlt : i < ds.length
    · refine .inr ⟨ok.go i H2 sg hlt, fun σ H => ∃ own' δ', EnvD X.K { F with Hi := sub H1 (F.ls0 ++ own) } own' σ δ' H ∧ forL g m (ds.drop (i + 1)) δ' k, fun σ' H' ⟨own', δ', E', q'⟩ => ⟨_, (by omega), rfl, hlt, own', δ', E', q'⟩, fun x H3 y => ?_⟩
      obtain ⟨d, ed, s3, r3⟩ := ok.yld i H2 x H3 (F.ls0 ++ own2) sg E2.imm E2.trk hlt y
      rw [drop_get ed] at q2
      refine ⟨_, own2, δ2, d, _, E2.grow s3, r3, q2, fun σ4 δ4 E4 q4 => ⟨_, own2, δ4, _, E4, q4, ?_⟩⟩
      exact ⟨fun σ' H' own' δ' E' q' => ⟨own', δ', E', q'⟩, fun v σ' H' own' δ' d' E' r' q' => L.rt v σ' H' own' δ' d' (E'.unfloor E1.imm) r' q', fun σ' H' own' δ' E' q' => L.nx σ' H' own' δ' (E'.unfloor E1.imm) q', fun σ' H' own' δ' E' q' => ⟨own', δ', E', q'⟩, fun er cls dd σ' H' own' δ' E' q' r' => L.er er cls dd σ' H' own' δ' (E'.unfloor E1.imm) q' r'⟩
    · have e : i = ds.length := by omega
      subst e
      rw [List.drop_length] at q2
      exact .inl ⟨ok.stop _ H2 sg rfl, L.nx _ _ own2 δ2 (E2.unfloor E1.imm) q2⟩

/-! ### comprehensions -/
def wipeD (δ : List DV) : List Nat → List DV
  | [] => δ
  | v :: vs => (wipeD δ vs).set v .u
theorem EnvD.wipe {K : PySem.W.Frag} {F : Fm} {own : List Addr} {σ : L2.St} {δ : List DV} {H : Hp} (E : EnvD K F own σ δ H) : ∀ vs : List Nat, EnvD K F own (L2.wipe σ vs) (wipeD δ vs) H
  | [] => E
  | v :: vs => (EnvD.wipe E vs).unset v none
theorem wipe_at {σ : L2.St} {i : Nat} (hi : i < σ.length) : ∀ {vs : List Nat}, i ∈ vs → (L2.wipe σ vs)[i]? = some none
  | v :: vs, h => by
    unfold L2.wipe
    by_cases e : v = i
    · subst e
      exact List.getElem?_set_self (by rw [wipe_length]; exact hi)
    · rw [List.getElem?_set_ne e]
      rcases List.mem_cons.mp h with z | z
      · exact absurd z.symm e
      · exact wipe_at hi z
theorem wipe_off {σ : L2.St} {i : Nat} : ∀ {vs : List Nat}, i ∉ vs → (L2.wipe σ vs)[i]? = σ[i]?
  | [], _ => rfl
  | v :: vs, h => by
    unfold L2.wipe
    rw [List.getElem?_set_ne fun e => h (by rw [e]; exact List.mem_cons_self)]
    exact wipe_off fun z => h (List.mem_cons_of_mem _ z)
theorem wipe_set {σ : L2.St} {i : Nat} {s : Option V} {vs : List Nat} (h : i ∈ vs) : L2.wipe (σ.set i s) vs = L2.wipe σ vs := by
  apply List.ext_getElem?
  intro j
  by_cases hj : j ∈ vs
  · by_cases hl : j < σ.length
    · rw [wipe_at hl hj, wipe_at (by rw [List.length_set]; exact hl) hj]
    · rw [List.getElem?_eq_none (by rw [wipe_length, List.length_set]; omega), List.getElem?_eq_none (by rw [wipe_length]; omega)]
  · rw [wipe_off hj, wipe_off hj, List.getElem?_set_ne fun e => hj (by rw [← e]; exact h)]
theorem wipe_wipe {σ : L2.St} {vs : List Nat} : L2.wipe (L2.wipe σ vs) vs = L2.wipe σ vs := by
  apply List.ext_getElem?
  intro j
  by_cases hj : j ∈ vs
  · by_cases hl : j < σ.length
    · rw [wipe_at (by rw [wipe_length]; exact hl) hj, wipe_at hl hj]
    · rw [List.getElem?_eq_none (by rw [wipe_length, wipe_length]; omega), List.getElem?_eq_none (by rw [wipe_length]; omega)]
  · rw [wipe_off hj]
/-- targets of a block: they set its own slots alone -/
def tgw (K : PySem.W.Frag) (vs : List Nat) (g : GM) : TG := fun v σ H Q => ∃ (F : Fm) (own : List Addr) (δ : List DV) (d : D) (P : List DV → Prop), EnvD K F own σ δ H ∧ Rep K (sub H (F.ls0 ++ own)) v d ∧ g d δ P ∧ ∀ σ' δ', EnvD K F own σ' δ' H → L2.wipe σ' vs = L2.wipe σ vs → P δ' → Q σ' H
def tgws (K : PySem.W.Frag) (vs : List Nat) (g : GMs) : TGs := fun us σ H Q => ∃ (F : Fm) (own : List Addr) (δ : List DV) (ds : List D) (P : List DV → Prop), EnvD K F own σ δ H ∧ Reps K (sub H (F.ls0 ++ own)) us ds ∧ g ds δ P ∧ ∀ σ' δ', EnvD K F own σ' δ' H → L2.wipe σ' vs = L2.wipe σ vs → P δ' → Q σ' H
def DGw (X : Cx) (vs : List Nat) (e : Expr) (g : GM) : Prop := PG X e (tgw X.K vs g)
def DGws (X : Cx) (vs : List Nat) (es : List Expr) (g : GMs) : Prop := PGs X es (tgws X.K vs g)
variable {vs : List Nat}
theorem dgw_name (i : Nat) {x : Str} (h : PG X (.Name x pos) (gName i)) (hv : i ∈ vs := by decide) : DGw X vs (.Name x pos) (gN i) := PG.imp h fun v σ H Q ⟨F, own, δ, d, P, E, r, g, q⟩ => q _ _ (E.set i r) (wipe_set hv) g
theorem dgws_nil : DGws X vs [] gsNil := PGs.imp pgs_nil fun us σ H Q ⟨F, own, δ, ds, P, E, r, g, q⟩ => by
  obtain ⟨rfl, g⟩ := g
  cases r
  exact ⟨rfl, q _ _ E rfl g⟩
theorem dgws_cons {g : GM} {gs : GMs} (h1 : DGw X vs e g) (h2 : DGws X vs es gs) (hs : (assignEach (e :: es) X.env).map (·.2) = assign e X.env :: (assignEach es X.env).map (·.2) := by rfl) : DGws X vs (e :: es) (gsCons g gs) :=
  PGs.imp (pgs_cons h1 h2 hs) fun us σ H Q ⟨F, own, δ, ds, P, E, r, g, q⟩ => by
    obtain ⟨d, dr, rfl, g⟩ := g
    cases r with
    | cons r rr => exact ⟨_, _, rfl, F, own, δ, d, _, E, r, g, fun σ' δ' E' w' g' => ⟨F, own, δ', dr, P, E', rr, g', fun σ2 δ2 E2 w2 => q σ2 δ2 E2 (w2.trans w')⟩⟩
theorem dgw_tup {j : Nat} {gs : GMs} {n : Nat} (hc : X.calm = true) (h : DGws X vs es gs) (hn : (assignEach es X.env).length = n := by rfl) (hst : (assignEach es X.env).findIdx? (·.1) = none := by rfl) : DGw X vs (.Tuple es j pos) (gT n gs) :=
  PG.imp (pg_tup hc h hn hst) fun v σ H Q ⟨F, own, δ, d, P, E, r, g, q⟩ => by
    obtain ⟨ds, rfl, hl, g⟩ := g
    cases r with
    | tup h1 h2 h3 => exact ⟨_, _, rfl, sameT sub_le h1, by rw [h3.length]; exact hl, F, own, δ, ds, P, E, h3, g, q⟩
def DTs (X : Cx) (W : WX) (ifs : List Expr) (m : BM) : Prop := PTs X ifs (tb X.K W m)
def mYes : BM := fun _ Q _ => Q true
theorem PTs.imp {X : Cx} {e : List Expr} {t t' : TT} (h : PTs X e t) (k : ∀ σ H Q, t' σ H Q → t σ H Q) : PTs X e t' := ⟨fun pins s σ H Q I q => h.run pins s σ H Q I (k _ _ _ q)⟩
theorem dts_nil : DTs X W [] mYes := PTs.imp pts_nil fun σ H Q ⟨F, own, δ, P, EK, A, m, q⟩ => q true H m (Same.refl H)
theorem dts_one (h : DT X W c na) : DTs X W [c] na := pts_one h
def compL (g : GM) (mt : BM) (me : TM) (δ0 : List DV) : List D → List D → (D → Prop) → Prop
  | [], acc, Q => Q (.list acc)
  | d :: ds, acc, Q => g d δ0 fun δ' => mt δ' (fun b => if b = true then me δ' (fun y => compL g mt me δ0 ds (acc ++ [y]) Q) NoE else compL g mt me δ0 ds acc Q) NoE
def mComp (vs : List Nat) (mi : LM) (g : GM) (mt : BM) (me : TM) : TM := fun δ Q E => mi δ (fun ds => compL g mt me (wipeD δ vs) ds [] Q) E
theorem noPass {K : PySem.W.Frag} {ls : List Addr} {σ : L2.St} {H : Hp} {W : WX} : Pass K W ls σ H NoE := fun _ _ _ _ h => h.elim
/-- a cell of ours that no name holds is written -/
theorem EnvD.poke {K : PySem.W.Frag} {F : Fm} {own : List Addr} {σ : L2.St} {δ : List DV} {H : Hp} (E : EnvD K F own σ δ H) {a : Addr} {o o' : HO} (ha : a ∈ own) (ho : H a = some o') (hn : ∀ (j : Nat) (dj : D), δ[j]? = some (.m dj) → σ[j]? ≠ some (some (.ref a))) (hp : Plain o' := by exact plain_of) (hp2 : Plain o := by exact plain_of) : EnvD K F own σ δ (upd H a o) := by
  have hin : a ∈ F.ls0 ++ own := List.mem_append_right _ ha
  have s : Same (sub H [a]) (upd H a o) := same_put
  have g : Grow (sub H (F.ls0 ++ own)) (sub (upd H a o) (F.ls0 ++ own)) := s.butSub hin
  refine ⟨E.same.but (E.new a ha) ho hp s, E.imm.trans g, s.tb fun p hq => TabS.less ho hp (E.tabs p hq), E.new, fun l hl => ?_, E.sep, E.len, fun j dv hj => ?_, E.lent, E.alone, E.apart⟩
  · by_cases z : l = a
    · exact ⟨o, by rw [z]; exact upd_same, hp2⟩
    · obtain ⟨u, q, nn⟩ := E.trk l hl
      exact ⟨u, by rw [upd_ne z]; exact q, nn⟩
  · obtain ⟨s1, q1, q⟩ := E.slot j dv hj
    refine ⟨s1, q1, ?_⟩
    cases dv with
    | u => trivial
    | v d => obtain ⟨x, q2, r2⟩ := q; exact ⟨x, q2, r2.mono g⟩
    | m d2 =>
      obtain ⟨c, q2, hc, r2⟩ := q
      subst q2
      have nca : c ≠ a := fun z => hn j d2 hj (by rw [q1, z])
      exact ⟨c, rfl, hc, r2.grow g fun u hu n => s.butAt nca hu n⟩
    | s d2 =>
      obtain ⟨b, C, dx, n, fs, ds, q2, h1, h2, h3, h4, r⟩ := q
      have nba : b ≠ a := fun z => E.sep a ha (by rw [← z]; exact h1)
      exact ⟨b, C, dx, n, fs, ds, q2, h1, h2, h3, s.butAt nba h4, r.mono g⟩
theorem df_comp {elt tg it : Expr} {ifs : List Expr} {scope : Scope} {own : List (Str × Nat)} {mi : LM} {g : GM} {mt : BM} {me : TM} (hc : X.calm = true) (hN : X.N.Nodup) (hi : DI X W tg it ba mi) (ok : BlkOk X.N X.env.scope scope own)
    (hg : ∀ (s : Shared) (H : Hp) (C : Addr) (cl : List (Str × Addr)) (fp : List Addr), DGw (X.blk s H scope (compEnvC scope cl C X.env) fp) (own.map (·.2)) tg g) (ht : ∀ (s : Shared) (H : Hp) (C : Addr) (cl : List (Str × Addr)) (fp : List Addr), DTs (X.blk s H scope (compEnvC scope cl C X.env) fp) NoW ifs mt)
    (he : ∀ (s : Shared) (H : Hp) (C : Addr) (cl : List (Str × Addr)) (fp : List Addr), DE (X.blk s H scope (compEnvC scope cl C X.env) fp) NoW elt false me) (hs : ∀ x, foldedSetIterable it X.env x = pure x := by intro _; rfl) :
    DF X W (.ListComp elt [⟨tg, it, ifs, 0⟩] scope pos) (mComp (own.map (·.2)) mi g mt me) :=
  PE.imp (pe_lc (g := tgw X.K (List.map (fun x : Str × Nat => x.2) own) g) (tt := tb X.K NoW mt) (te := tm X.K NoW false me) hc hN hi ok hg ht he hs) fun σ H Q ⟨F, ow, δ, P, EK, A, m, q⟩ => by
    refine ⟨F, ow, δ, _, EK, A, m, fun ds J H1 hds s1 ok => ?_⟩
    intro Dn hD
    have E1 := A.env.grow s1
    have nodn : ∀ (j : Nat) (dj : D), (wipeD δ (own.map (·.2)))[j]? = some (.m dj) → (L2.wipe σ (own.map (·.2)))[j]? ≠ some (some (.ref Dn)) := fun j dj h z => by
      obtain ⟨s, e1, a, e2, ha, _⟩ := (E1.wipe (own.map (·.2))).slot j _ h
      rw [e1] at z; cases z
      cases e2
      obtain ⟨o, q, nn⟩ := E1.trk Dn (List.mem_append_right _ ha)
      rw [hD] at q; cases q
    refine ⟨fun i n H => n = ds.length - i ∧ i ≤ ds.length ∧ Same H1 H ∧ EnvD X.K F (Dn :: ow) (L2.wipe σ (own.map (·.2))) (wipeD δ (own.map (·.2))) H ∧ ∃ xs acc, H Dn = some (.lst xs) ∧ xs.length ≤ i ∧ Reps X.K (sub H (F.ls0 ++ (Dn :: ow))) xs acc ∧ compL g mt me (wipeD δ (own.map (·.2))) (ds.drop i) acc P,
      ⟨_, rfl, Nat.zero_le _, same_upd hD, (E1.wipe _).grab hD (same_upd hD) ⟨_, upd_same, plain_of⟩, [], [], upd_same, Nat.le_refl _, .nil, hds⟩, ?_⟩
    rintro i n H2 ⟨rfl, hi2, s2, E2, xs, acc, hx, hl, rx, q2⟩
    have sg : Grow (flo ba H1 (F.ls0 ++ ow)) H2 := flo_le.trans s2.ob
    have sb : Grow (sub H1 (F.ls0 ++ ow)) (sub H2 (F.ls0 ++ (Dn :: ow))) := by
      rw [← sub_congr (H := H2) (mem_swap (ls := F.ls0) (own := ow) (p := Dn))]
      exact sub_fresh hD s2
    by_cases hlt : i < ds.length
    · refine .inr ⟨ok.go i H2 sg hlt, fun H' => Same H1 H' ∧ EnvD X.K F (Dn :: ow) (L2.wipe σ (own.map (·.2))) (wipeD δ (own.map (·.2))) H' ∧ ∃ xs acc, H' Dn = some (.lst xs) ∧ xs.length ≤ i + 1 ∧ Reps X.K (sub H' (F.ls0 ++ (Dn :: ow))) xs acc ∧ compL g mt me (wipeD δ (own.map (·.2))) (ds.drop (i + 1)) acc P,
        fun H' ⟨s', E', z⟩ => ⟨_, (by omega), rfl, hlt, s', E', z⟩, fun x H3 y => ?_⟩
      obtain ⟨d, ed, s3, r3⟩ := ok.yld i H2 x H3 (F.ls0 ++ (Dn :: ow)) sg sb E2.trk hlt y
      rw [drop_get ed] at q2
      have hz : xs.length < sizeLine := Nat.lt_of_le_of_lt hl (Nat.lt_of_lt_of_le hlt ok.sz)
      refine ⟨F, Dn :: ow, _, d, _, E2.grow s3, r3, q2, fun σ4 δ4 E4 w4 q4 => ⟨by rw [w4]; exact wipe_wipe, F, Dn :: ow, δ4, _, NoE, ⟨E4, noPass⟩, q4, fun b H5 p5 s5 => ?_⟩⟩
      cases b with
      | false =>
        have p5' : compL g mt me (wipeD δ (own.map (·.2))) (ds.drop (i + 1)) acc P := by simpa using p5
        exact iteF ⟨(s2.trans s3).trans s5, E2.grow (s3.trans s5), xs, acc, s5 _ _ (s3 _ _ hx), Nat.le_succ_of_le hl, rx.mono (sub_same (s3.trans s5)), p5'⟩
      | true =>
        refine iteT ⟨F, Dn :: ow, δ4, _, NoE, ⟨E4.grow s5, noPass⟩, (by simpa using p5), fun yd v H6 p6 s6 r6 => ?_⟩
        have hx6 := s6 _ _ (s5 _ _ (s3 _ _ hx))
        have es : sub (upd H6 Dn (.lst (xs ++ [v]))) (F.ls0 ++ (Dn :: ow)) = sub H6 (F.ls0 ++ (Dn :: ow)) := sub_upd (List.mem_append_right _ List.mem_cons_self)
        have sn : Same H1 (upd H6 Dn (.lst (xs ++ [v]))) := Same.put (((s2.trans s3).trans s5).trans s6) hD hx6
        refine ⟨xs, hx6, hz, sn, (E2.grow ((s3.trans s5).trans s6)).poke List.mem_cons_self hx6 nodn, xs ++ [v], acc ++ [yd], upd_same, ?_, ?_, p6⟩
        · rw [List.length_append, List.length_singleton]; omega
        · rw [es]
          exact (rx.mono (sub_same ((s3.trans s5).trans s6))).append (.cons r6.clean .nil)
    · have e : i = ds.length := by omega
      subst e
      rw [List.drop_length] at q2
      refine .inl ⟨ok.stop _ H2 sg rfl, q _ Dn H2 q2 (s1.free hD) (s1.trans s2) (.l hx (Nat.le_trans hl ok.sz) ?_)⟩
      rw [sub_congr (H := H2) (mem_swap (ls := F.ls0) (own := ow) (p := Dn))]
      exact rx
end
end DL

set_option Elab.async false
set_option linter.all false
set_option maxRecDepth 100000
set_option maxHeartbeats 4000000
/-! DL5: what a def computes, as data; calls. -/
namespace DL
open PySem PySem.Spec PyProof.Rows L2
variable [TabsC]

/-- no repr runs around; the table of modules stands -/
def GdOk (A : Around) (base : Heap) : Prop := A.guards = some [] ∧ ∃ mm, base.Ns sysModules mm
/-- a def's promise of positional calls where no repr runs around it -/
def FnP (P : Program) (w : World) (K : PySem.W.Frag) (mg : Str → Option Value) (base : Heap) (k : Nat) (f : Addr) (sp : Sp) : Prop :=
  ∀ (A : Around) (outer : List Env) (s : Shared) (H : Hp) (us : List Value) (vs : List V) (Q : VK) (E : XK), GdOk A base → Room k A → Env0 P w K mg base A outer s H → Vals vs us → sp vs H Q E → codeAny (model P w) A (.call (.ref f) ⟨us, []⟩) (CR (L2.CX P w) outer P w H s Q E) s
theorem FnP.mono {P : Program} {w : World} {K : PySem.W.Frag} {mg : Str → Option Value} {base : Heap} {j k : Nat} {f : Addr} {sp : Sp} (F : FnP P w K mg base j f sp) (h : j ≤ k) : FnP P w K mg base k f sp :=
  fun A outer s H us vs Q E hG hr => F A outer s H us vs Q E hG (hr.mono h)
abbrev FM := List D → (D → Prop) → (Er → Prop) → Prop
def spD (K : PySem.W.Frag) (m : FM) : Sp := fun vs H Q E => ∃ (fo : List Addr) (ds : List D) (P : D → Prop) (EK : Er → Prop), (∀ l, l ∈ fo → ∃ o, H l = some o ∧ Plain o) ∧ LamX.Tabs TabsC.T H ∧ Reps K (sub H fo) vs ds ∧ m ds P EK ∧
  (∀ d v H', P d → Same H H' → Rep K (sub H' fo) v d → Q v H') ∧ (∀ er cls dd H', EK er → Same H H' → RepEr K fo H' cls dd er → E cls dd H')
abbrev FnD (P : Program) (w : World) (K : PySem.W.Frag) (mg : Str → Option Value) (base : Heap) (k : Nat) (f : Addr) (m : FM) : Prop := FnP P w K mg base k f (spD K m)
/-- another reckoning that asks no less -/
theorem FnD.imp {P : Program} {w : World} {K : PySem.W.Frag} {mg : Str → Option Value} {base : Heap} {k : Nat} {f : Addr} {m m' : FM} (F : FnD P w K mg base k f m) (h : ∀ ds Q E, m' ds Q E → m ds Q E) : FnD P w K mg base k f m' :=
  fun A outer s H us vs Q E hG hr e r ⟨fo, ds, P, EK, t, tb, rs, m, q⟩ => F A outer s H us vs Q E hG hr e r ⟨fo, ds, P, EK, t, tb, rs, h _ _ _ m, q⟩
/-! .. of a method that may write its self -/
abbrev MM := D → List D → (D → D → Prop) → (D → Er → Prop) → Prop
def spM (K : PySem.W.Frag) (m : MM) : Sp := fun vs H Q E => ∃ (fo : List Addr) (x C dx : Addr) (n : Str) (ws : List V) (fs : List (Str × V)) (dfs : List (Str × D)) (ds : List D) (P : D → D → Prop) (EK : D → Er → Prop), vs = .ref x :: ws ∧ x ∈ fo ∧ (∀ l, l ∈ fo → ∃ o, H l = some o ∧ Plain o) ∧ LamX.Tabs TabsC.T H ∧
  PySem.W.nsIn K mainGlobals n = some (some (.ref C)) ∧ H x = some (.ins C dx fs) ∧ RepFs K (sub H fo) fs dfs ∧ Reps K (sub H fo) ws ds ∧ m (.obj n dfs) ds P EK ∧
  (∀ n' dfs' d v H' C' dx' fs', P (.obj n' dfs') d → PySem.W.nsIn K mainGlobals n' = some (some (.ref C')) → Same (sub H [x]) H' → H' x = some (.ins C' dx' fs') → RepFs K (sub H' fo) fs' dfs' → Rep K (sub H' fo) v d → Q v H') ∧
  (∀ n' dfs' er cls dd H' C' dx' fs', EK (.obj n' dfs') er → PySem.W.nsIn K mainGlobals n' = some (some (.ref C')) → Same (sub H [x]) H' → H' x = some (.ins C' dx' fs') → RepFs K (sub H' fo) fs' dfs' → RepEr K fo H' cls dd er → E cls dd H')
abbrev FnM (P : Program) (w : World) (K : PySem.W.Frag) (mg : Str → Option Value) (base : Heap) (k : Nat) (f : Addr) (m : MM) : Prop := FnP P w K mg base k f (spM K m)
theorem FnM.imp {P : Program} {w : World} {K : PySem.W.Frag} {mg : Str → Option Value} {base : Heap} {k : Nat} {f : Addr} {m m' : MM} (F : FnM P w K mg base k f m) (h : ∀ d ds Q E, m' d ds Q E → m d ds Q E) : FnM P w K mg base k f m' :=
  fun A outer s H us vs Q E hG hr e r ⟨fo, x, C, dx, n, ws, fs, dfs, ds, P, EK, ev, hx, t, tb, hn, ha, rf, rs, m, q⟩ => F A outer s H us vs Q E hG hr e r ⟨fo, x, C, dx, n, ws, fs, dfs, ds, P, EK, ev, hx, t, tb, hn, ha, rf, rs, h _ _ _ _ m, q⟩

def startD (n : Nat) (ds : List D) : List DV := ds.map DV.v ++ List.replicate (n - ds.length) DV.u
def endK (P : D → Prop) (EK : Er → Prop) : KD := ⟨fun _ => P .none, fun _ d => P d, fun _ => False, fun _ => False, fun _ er => EK er⟩
/-- the body's reckoning as the def's: np parameters -/
def mFun (np n : Nat) (m : SM) : FM := fun ds P EK => ds.length = np ∧ m (startD n ds) (endK P EK)
/-- .. with defaults for the last ones -/
def mFunD (np n : Nat) (dds : List D) (m : SM) : FM := fun ds P EK => ds.length ≤ np ∧ np ≤ ds.length + dds.length ∧ m (startD n (ds ++ dds.drop (ds.length + dds.length - np))) (endK P EK)
/-- .. with a star behind the parameters -/
def mFunS (np n : Nat) (m : SM) : FM := fun ds P EK => np ≤ ds.length ∧ ds.length ≤ sizeLine ∧ m (startD n (ds.take np ++ [.tup (ds.drop np)])) (endK P EK)
def endM (P : D → D → Prop) (EK : D → Er → Prop) : KD := ⟨fun δ => ∃ d, δ[0]? = some (.s d) ∧ P d .none, fun δ r => ∃ d, δ[0]? = some (.s d) ∧ P d r, fun _ => False, fun _ => False, fun δ er => ∃ d, δ[0]? = some (.s d) ∧ EK d er⟩
def mFunM (np n : Nat) (m : SM) : MM := fun self ds P EK => ds.length + 1 = np ∧ m (.s self :: startD (n - 1) ds) (endM P EK)
def mFunMD (np n : Nat) (dds : List D) (m : SM) : MM := fun self ds P EK => ds.length + 1 ≤ np ∧ np ≤ ds.length + 1 + dds.length ∧ m (.s self :: startD (n - 1) (ds ++ dds.drop (ds.length + 1 + dds.length - np))) (endM P EK)
def mFunMS (n : Nat) (m : SM) : MM := fun self ds P EK => ds.length ≤ sizeLine ∧ m (.s self :: startD (n - 1) [.tup ds]) (endM P EK)
theorem start_slot {K : PySem.W.Frag} {fo : List Addr} {vs : List V} {ds : List D} {H : Hp} {n m : Nat} (r : Reps K (sub H fo) vs ds) (e : n - ds.length = m - vs.length) : ∀ (i : Nat) (dv : DV), (startD n ds)[i]? = some dv → ∃ s, (vs.map some ++ List.replicate (m - vs.length) none)[i]? = some s ∧ ((∃ d v, dv = .v d ∧ s = some v ∧ Rep K (sub H fo) v d) ∨ dv = .u) := by
  intro i dv h
  have hl := r.length
  unfold startD at h
  by_cases hi : i < ds.length
  · rw [List.getElem?_append_left (by simpa using hi), List.getElem?_map, List.getElem?_eq_getElem hi] at h
    have h' : DV.v ds[i] = dv := Option.some.inj h
    subst h'
    obtain ⟨v, ev, rv⟩ := r.get' (List.getElem?_eq_getElem hi)
    refine ⟨some v, ?_, .inl ⟨_, v, rfl, rfl, rv⟩⟩
    rw [List.getElem?_append_left (by rw [List.length_map, hl]; exact hi), List.getElem?_map, ev]
    rfl
  · rw [List.getElem?_append_right (by simpa using hi), List.getElem?_replicate] at h
    split at h
    · cases h
      rename_i hq
      refine ⟨none, ?_, .inr rfl⟩
      rw [List.getElem?_append_right (by rw [List.length_map, hl]; omega), List.getElem?_replicate, if_pos]
      rw [List.length_map] at hq ⊢
      rw [← e, hl]
      exact hq
    · cases h
theorem startD_len {n : Nat} {ds : List D} : (startD n ds).length = ds.length + (n - ds.length) := by
  unfold startD
  rw [List.length_append, List.length_map, List.length_replicate]
theorem startD_kind {n i : Nat} {ds : List D} {dv : DV} (h : (startD n ds)[i]? = some dv) : (∃ d, dv = .v d) ∨ dv = .u := by
  unfold startD at h
  by_cases hi : i < ds.length
  · rw [List.getElem?_append_left (by simpa using hi), List.getElem?_map, List.getElem?_eq_getElem hi] at h
    exact .inl ⟨_, (Option.some.inj h).symm⟩
  · rw [List.getElem?_append_right (by simpa using hi), List.getElem?_replicate] at h
    split at h
    · exact .inr (Option.some.inj h).symm
    · cases h
theorem env_start {K : PySem.W.Frag} {fo : List Addr} {vs : List V} {ds : List D} {H : Hp} {N : List Str} (ht : ∀ l, l ∈ fo → ∃ o, H l = some o ∧ Plain o) (tb : LamX.Tabs TabsC.T H) (r : Reps K (sub H fo) vs ds) : EnvD K ⟨fo, H, sub H fo⟩ [] (L2.start N vs) (startD N.length ds) H := by
  have e : fo ++ [] = fo := List.append_nil fo
  have hl := r.length
  have no : ∀ (i : Nat) (d : D), (startD N.length ds)[i]? ≠ some (.s d) ∧ (startD N.length ds)[i]? ≠ some (.m d) := fun i d => by
    constructor
    · intro z
      rcases startD_kind z with ⟨_, q⟩ | q <;> cases q
    · intro z
      rcases startD_kind z with ⟨_, q⟩ | q <;> cases q
  refine ⟨Same.refl H, by rw [e]; exact Grow.refl _, tb, fun l h => absurd h (by simp), fun l h => ht l (by rw [← e]; exact h), fun l h => absurd h (by simp), ?_, fun i dv h => ?_, fun i d a h => absurd h (no i d).1, fun i j di dj a h => absurd h (no i di).1, fun i j di dj a h => absurd h (no i di).2⟩
  · rw [startD_len]
    unfold L2.start
    rw [List.length_append, List.length_map, List.length_replicate, hl]
  · obtain ⟨s, hs, q⟩ := start_slot (m := N.length) r (by rw [hl]) i dv h
    refine ⟨s, hs, ?_⟩
    rcases q with ⟨d, v, rfl, rfl, rv⟩ | rfl
    · exact ⟨v, rfl, by rw [e]; exact rv⟩
    · trivial
/-- .. of a method, its self lent -/
theorem env_startM {K : PySem.W.Frag} {fo : List Addr} {x C dx : Addr} {n : Str} {ws : List V} {fs : List (Str × V)} {dfs : List (Str × D)} {ds : List D} {H : Hp} {N : List Str} (hN : N ≠ []) (hx : x ∈ fo) (ht : ∀ l, l ∈ fo → ∃ o, H l = some o ∧ Plain o) (tb : LamX.Tabs TabsC.T H) (hn : PySem.W.nsIn K mainGlobals n = some (some (.ref C))) (ha : H x = some (.ins C dx fs)) (rf : RepFs K (sub H fo) fs dfs) (r : Reps K (sub H fo) ws ds) :
    EnvD K ⟨fo, sub H [x], sub H fo⟩ [] (L2.start N (.ref x :: ws)) (.s (.obj n dfs) :: startD (N.length - 1) ds) H := by
  have e : fo ++ [] = fo := List.append_nil fo
  have hl := r.length
  have hp : 0 < N.length := List.length_pos_iff.mpr hN
  have es : L2.start N (.ref x :: ws) = some (.ref x) :: (ws.map some ++ List.replicate (N.length - 1 - ws.length) none) := by
    unfold L2.start
    rw [List.map_cons, List.length_cons, List.cons_append, show N.length - (ws.length + 1) = N.length - 1 - ws.length by omega]
  have no : ∀ (i : Nat) (d : D), (.s (.obj n dfs) :: startD (N.length - 1) ds)[i]? = some (.s d) → i = 0 := fun i d h => by
    cases i with
    | zero => rfl
    | succ i =>
      rcases startD_kind (by simpa using h) with ⟨_, q⟩ | q <;> cases q
  have nm : ∀ (i : Nat) (d : D), (.s (.obj n dfs) :: startD (N.length - 1) ds)[i]? ≠ some (.m d) := fun i d h => by
    cases i with
    | zero => cases h
    | succ i =>
      rcases startD_kind (by simpa using h) with ⟨_, q⟩ | q <;> cases q
  refine ⟨same_less, by rw [e]; exact Grow.refl _, tb, fun l h => absurd h (by simp), fun l h => ht l (by rw [← e]; exact h), fun l h => absurd h (by simp), ?_, fun i dv h => ?_, fun i d a h h2 => ?_, fun i j di dj a h h2 _ _ => by rw [no i di h, no j dj h2], fun i j di dj a h => absurd h (nm i di)⟩
  · rw [es, List.length_cons, List.length_cons, startD_len, List.length_append, List.length_map, List.length_replicate, hl]
  · rw [es]
    cases i with
    | zero =>
      cases h
      exact ⟨_, rfl, x, C, dx, n, fs, dfs, rfl, hx, rfl, hn, ha, by rw [e]; exact rf⟩
    | succ i =>
      obtain ⟨s, hs, q⟩ := start_slot (m := N.length - 1) r (by rw [hl]) i dv (by simpa using h)
      refine ⟨s, by simpa using hs, ?_⟩
      rcases q with ⟨d, v, rfl, rfl, rv⟩ | rfl
      · exact ⟨v, rfl, by rw [e]; exact rv⟩
      · trivial
  · have := no i d h
    subst this
    rw [es] at h2
    cases h2
    exact sub_in (List.mem_singleton.mpr rfl)

section
variable {P : Program} {w : World} {K : PySem.W.Frag} {mg : Str → Option Value} {base : Heap}
/-- THE RULE for a def, by its body's reading -/
theorem fnP_of {x qual : Str} {st : Stmt} {f : Addr} {fd : FuncData} {N ps : List Str} {k : Nat} {sp sb : Sp} (F : Fun K x qual st f fd) (S : FnScope N ps (defScope st))
    (har : ∀ (s : Shared) (us : List Value) (vs : List V) (H : Hp) (Q : VK) (E : XK), K.In s.heap → Vals vs us → sp vs H Q E → ∃ vs' us', Vals vs' us' ∧ vs'.length = ps.length ∧ BindsTo s fd ⟨us, []⟩ (ps.zip us') ∧ sb vs' H Q E)
    (hbody : ∀ (cdv : Value) (A : Around) (outer : List Env) (s : Shared) (H : Hp) (vs : List V) (Q : VK) (E : XK), GdOk A base → Room k (A.deeper (envOfC qual (defScope st) s.heap.objs.size f cdv)) → sb vs H Q E →
      ∃ t, PSs (cxOf (L2.CX P w) P w K mg base N qual (defScope st) f cdv A outer s H E) (defBody st) t ∧ t { nx := fun _ H' => Q .non H', rt := Q } (L2.start N vs) H) : FnP P w K mg base (k + 1) f sp := by
  obtain ⟨oc, od, kV, doc, pm, an, cdv, ct, osl, rfl, lk, hcd⟩ := F.ex
  intro A outer s H us0 vs0 Q E hG hr e0 r0 hsp0
  have KX : K.In s.heap := e0.mod.kin.keeps fun b o e => (e0.bs b o e).1
  obtain ⟨vs, us, r, hl, hb, hsp⟩ := har s us0 vs0 H Q E KX r0 hsp0
  have lim : s.heap.NoLimit := e0.mod.nolimit.keeps fun b o e => (e0.bs b o e).1
  refine codeAny_call_function hr.depth (KX _ _ lk) rfl S.co S.gen rfl (PySem.W.codeRec_of KX hcd) (hb _ _ _ _ ?_)
  refine wpAny_newFunctionEnv_cells S.kind (fun ⟨n, v⟩ hy => ?_) fun env he s1 x => ?_
  · rcases S.par n (List.of_mem_zip hy).1 with q | q
    · exact .inl q
    · exact .inr ⟨q, PySem.W.cellsFrom_some _ _ _ (.inl q)⟩
  subst he
  refine ⟨lim.keeps x.toInCall.keep, codeAny_func ?_⟩
  have I : Inv (cxOf (L2.CX P w) P w K mg base N qual (defScope st) f cdv A outer s H E) [] (L2.start N vs) H s1 := inv_start S hr.hd e0 hl r x
  obtain ⟨t, ht, hw⟩ := hbody cdv A outer s H vs Q E hG (hr.deeper _) hsp
  refine wpAny_mono (ht.run [] s1 _ H _ I hw) (fun fl s' hs => ?_) fun e s' hs => hs
  cases fl with
  | ret u =>
    obtain ⟨v, σ', H', J, rv, q⟩ := hs
    exact ⟨v, H', J.os, J.bare, J.base, J.hok, rv, q⟩
  | next =>
    obtain ⟨σ', H', J, q⟩ := hs
    exact ⟨V.non, H', J.os, J.bare, J.base, J.hok, rfl, q⟩
  | brk =>
    obtain ⟨_, _, _, q⟩ := hs
    exact q.elim
  | cont =>
    obtain ⟨_, _, _, q⟩ := hs
    exact q.elim
/-- .. with a star behind np parameters -/
theorem fnP_star {x qual pv : Str} {st : Stmt} {f : Addr} {fd : FuncData} {N ps : List Str} {k : Nat} {sp sb : Sp} (F : Fun K x qual st f fd) (S : FnScope N (ps ++ [pv]) (defScope st))
    (hb : ∀ us rest : List Value, us.length = ps.length → bindArgs fd ⟨us ++ rest, []⟩ = (newTuple rest >>= fun t => pure (ps.zip us ++ [(pv, t)])))
    (har : ∀ (vs : List V) (H : Hp) (Q : VK) (E : XK), sp vs H Q E → ∃ ws rest, vs = ws ++ rest ∧ ws.length = ps.length ∧ rest.length ≤ sizeLine ∧ ∀ p, H p = none → sb (ws ++ [V.ref p]) (upd H p (.tup rest)) Q E)
    (hbody : ∀ (cdv : Value) (A : Around) (outer : List Env) (s : Shared) (H : Hp) (vs : List V) (Q : VK) (E : XK), GdOk A base → Room k (A.deeper (envOfC qual (defScope st) s.heap.objs.size f cdv)) → sb vs H Q E →
      ∃ t, PSs (cxOf (L2.CX P w) P w K mg base N qual (defScope st) f cdv A outer s H E) (defBody st) t ∧ t { nx := fun _ H' => Q .non H', rt := Q } (L2.start N vs) H) : FnP P w K mg base (k + 1) f sp := by
  obtain ⟨oc, od, kV, doc, pm, an, cdv, ct, osl, rfl, lk, hcd⟩ := F.ex
  intro A outer s H us vs Q E hG hr e0 r hsp0
  obtain ⟨ws, rest, ev, hl, hz, hq⟩ := har vs H Q E hsp0
  subst ev
  obtain ⟨u1, u2, eu, r1, r2⟩ := StX.vals_split r
  subst eu
  have hn : H s.heap.objs.size = Option.none := e0.hok.fresh (Nat.le_refl _)
  have hl1 : u1.length = ps.length := by rw [← r1.length]; exact hl
  have hl2 : u2.length ≤ sizeLine := by rw [← r2.length]; exact hz
  refine StX.run_bnd lk hcd S hr e0 (G := fun xs H2 => ∃ p, H p = Option.none ∧ xs = ws ++ [V.ref p] ∧ H2 = upd H p (.tup rest)) (fun A' Ex Q' h => ?_) fun s2 H2 xs ⟨p, hp, ex, eH⟩ hr' => ?_
  · rw [hb u1 u2 hl1]
    refine wpAny_bind (wpAny_newTuple (wpAny_pure ?_) hl2)
    have new : ObjOk P w (upd H s.heap.objs.size (.tup rest)) (s.heap.push ({ cls := .type "tuple", data := .seq u2.toArray } : Obj)) s.heap.objs.size (.tup rest) := ⟨hz, u2, r2, ⟨_, Heap.get?_push_size _ rfl, rfl, _, rfl⟩⟩
    have un := StX.un_laid (fs := frs outer) (s := s) (o := ({ cls := .type "tuple", data := .seq u2.toArray } : Obj)) (u := .tup rest) hn
    have z := h _ _ (ws ++ [V.ref s.heap.objs.size]) (u1 ++ [Value.ref s.heap.objs.size]) (StX.env0_laid e0 new) un rfl (fun e s' => StX.cxUp outer s H _ _ E e s' un (fun b o q => Heap.get?_push_of_some _ q) rfl) (r1.append (.cons rfl .nil))
      (by rw [List.length_append, List.length_append, hl] <;> rfl) ⟨_, hn, rfl, rfl⟩
    rw [List.zip_append hl1.symm] at z
    exact z
  · subst ex eH
    exact hbody _ A outer s2 _ _ Q E hG hr' (hq p hp)
theorem links_end {cx : Cx} {fo : List Addr} {H : Hp} {Q : VK} {E : XK} {P : D → Prop} {EK : Er → Prop} {Hi : Hp} (hq : ∀ d v H', P d → Same H H' → Rep K (sub H' fo) v d → Q v H') (he : ∀ er cls dd H', EK er → Same H H' → RepEr K fo H' cls dd er → E cls dd H') :
    LinkS K (fun cls dd _ H => E cls dd H) ⟨fo, H, Hi⟩ (endK P EK) { nx := fun _ H' => Q .non H', rt := Q } :=
  ⟨fun σ H' own δ E' q => hq .none .non H' q E'.same .non, fun v σ H' own δ d E' r' q => hq d v H' q E'.same r', fun _ _ _ _ _ q => q.elim, fun _ _ _ _ _ q => q.elim, fun er cls dd σ H' own δ E' q r' => he er cls dd H' q E'.same (r'.less fun a h => List.mem_append_left _ h)⟩
abbrev Wof (E : XK) : WX := fun cls dd _ H => E cls dd H
variable {x qual pv : Str} {st : Stmt} {f : Addr} {fd : FuncData} {N ps : List Str} {k : Nat} {m : SM}
theorem fnD_of (F : Fun K x qual st f fd) (S : FnScope N ps (defScope st)) (hb : Binds K fd ps [])
    (hbody : ∀ (cdv : Value) (A : Around) (outer : List Env) (s : Shared) (H : Hp) (E : XK), GdOk A base → Room k (A.deeper (envOfC qual (defScope st) s.heap.objs.size f cdv)) →
      DSs (cxOf (L2.CX P w) P w K mg base N qual (defScope st) f cdv A outer s H E) (Wof E) (defBody st) m) : FnD P w K mg base (k + 1) f (mFun ps.length N.length m) := by
  refine fnP_of F S (sb := spD K (mFun ps.length N.length m)) (fun s us vs H Q E hK r h => ?_) fun cdv A outer s H vs Q E hG hr h => ?_
  · obtain ⟨fo, ds, PQ, EK, ht, tb, rs, ⟨hl, hm⟩, q⟩ := id h
    have e : us.length = ps.length := by rw [← r.length, rs.length]; exact hl
    have b := hb s us hK (by rw [List.append_nil]; exact e)
    rw [List.append_nil] at b
    exact ⟨vs, us, r, by rw [rs.length]; exact hl, b, h⟩
  · obtain ⟨fo, ds, PQ, EK, ht, tb, rs, ⟨hl, hm⟩, hq, he⟩ := h
    exact ⟨_, hbody cdv A outer s H E hG hr, ⟨fo, H, sub H fo⟩, [], _, _, env_start ht tb rs, hm, links_end (cx := cxOf (L2.CX P w) P w K mg base N qual (defScope st) f cdv A outer s H E) hq he⟩
theorem fnD_def {dus : List Value} {dvs : List V} {dds : List D} (F : Fun K x qual st f fd) (S : FnScope N ps (defScope st)) (hb : ∀ j, Binds K fd ps (dus.drop j)) (hd : Vals dvs dus) (hdd : ∀ H, Reps K H dvs dds)
    (hbody : ∀ (cdv : Value) (A : Around) (outer : List Env) (s : Shared) (H : Hp) (E : XK), GdOk A base → Room k (A.deeper (envOfC qual (defScope st) s.heap.objs.size f cdv)) →
      DSs (cxOf (L2.CX P w) P w K mg base N qual (defScope st) f cdv A outer s H E) (Wof E) (defBody st) m) : FnD P w K mg base (k + 1) f (mFunD ps.length N.length dds m) := by
  have hlen : dvs.length = dds.length := (hdd fun _ => none).length
  have hdrop : ∀ (j : Nat) {as : List V} {bs : List Value}, Vals as bs → Vals (as.drop j) (bs.drop j) := fun j => by
    induction j with
    | zero => intro as bs r; exact r
    | succ j ih =>
      intro as bs r
      cases r with
      | nil => exact .nil
      | cons a r => exact ih r
  refine fnP_of F S (sb := spD K (mFun ps.length N.length m)) (fun s us vs H Q E hK r h => ?_) fun cdv A outer s H vs Q E hG hr h => ?_
  · obtain ⟨fo, ds, PQ, EK, ht, tb, rs, ⟨h1, h2, hm⟩, q⟩ := id h
    let j := ds.length + dds.length - ps.length
    have el : us.length = ds.length := by rw [← r.length, rs.length]
    have dl : (dds.drop j).length = ps.length - ds.length := by rw [List.length_drop]; omega
    have el2 : (us ++ dus.drop j).length = ps.length := by
      rw [List.length_append, List.length_drop, ← hd.length, hlen, el]
      omega
    refine ⟨vs ++ dvs.drop j, us ++ dus.drop j, r.append (hdrop j hd), by rw [List.length_append, List.length_drop, rs.length, hlen]; omega, hb j s us hK el2, fo, ds ++ dds.drop j, PQ, EK, ht, tb, rs.append ((hdd _).drop j), ⟨by rw [List.length_append, dl]; omega, hm⟩, q⟩
  · obtain ⟨fo, ds, PQ, EK, ht, tb, rs, ⟨hl, hm⟩, hq, he⟩ := h
    exact ⟨_, hbody cdv A outer s H E hG hr, ⟨fo, H, sub H fo⟩, [], _, _, env_start ht tb rs, hm, links_end (cx := cxOf (L2.CX P w) P w K mg base N qual (defScope st) f cdv A outer s H E) hq he⟩
theorem fnD_star (F : Fun K x qual st f fd) (S : FnScope N (ps ++ [pv]) (defScope st)) (hb : ∀ us rest : List Value, us.length = ps.length → bindArgs fd ⟨us ++ rest, []⟩ = (newTuple rest >>= fun t => pure (ps.zip us ++ [(pv, t)])))
    (hbody : ∀ (cdv : Value) (A : Around) (outer : List Env) (s : Shared) (H : Hp) (E : XK), GdOk A base → Room k (A.deeper (envOfC qual (defScope st) s.heap.objs.size f cdv)) →
      DSs (cxOf (L2.CX P w) P w K mg base N qual (defScope st) f cdv A outer s H E) (Wof E) (defBody st) m) : FnD P w K mg base (k + 1) f (mFunS ps.length N.length m) := by
  refine fnP_star F S (sb := spD K (mFun (ps.length + 1) N.length m)) hb (fun vs H Q E h => ?_) fun cdv A outer s H vs Q E hG hr h => ?_
  · obtain ⟨fo, ds, PQ, EK, ht, tb, rs, ⟨h1, h2, hm⟩, hq, he⟩ := h
    have lv := rs.length
    have rt := (rs.take ps.length)
    have rd := (rs.drop ps.length)
    refine ⟨vs.take ps.length, vs.drop ps.length, (List.take_append_drop _ _).symm, by rw [List.length_take]; omega, by rw [List.length_drop]; omega, fun p hp => ⟨fo, ds.take ps.length ++ [.tup (ds.drop ps.length)], PQ, EK, fun l hl => ?_, (same_upd hp).tb tb, ?_, ⟨?_, hm⟩, fun d v H' pd s r => hq d v H' pd ((same_upd hp).trans s) r, fun er cls dd H' ke s r => he er cls dd H' ke ((same_upd hp).trans s) r⟩⟩
    · obtain ⟨o, e, nn⟩ := ht l hl
      exact ⟨o, by rw [upd_ne (ne_of_none e hp)]; exact e, nn⟩
    · have np : p ∉ fo := fun z => by
        obtain ⟨o, e, nn⟩ := ht p z
        rw [hp] at e; cases e
      have g := (sub_same (ls := fo) (same_upd (o := .tup (vs.drop ps.length)) hp).ob)
      exact (rt.mono g).append (.cons (.tup (.of (by rw [sub_out np]; exact upd_same)) (by rw [List.length_drop]; omega) (rd.mono g)) .nil)
    · rw [List.length_append, List.length_take, List.length_singleton]; omega
  · obtain ⟨fo, ds, PQ, EK, ht, tb, rs, ⟨hl, hm⟩, hq, he⟩ := h
    exact ⟨_, hbody cdv A outer s H E hG hr, ⟨fo, H, sub H fo⟩, [], _, _, env_start ht tb rs, hm, links_end (cx := cxOf (L2.CX P w) P w K mg base N qual (defScope st) f cdv A outer s H E) hq he⟩
/-! methods with a self that may be written -/
theorem self_at {F : Fm} {own : List Addr} {σ : L2.St} {δ : List DV} {H H' : Hp} {x : Addr} {d : D} (E : EnvD K F own σ δ H') (hx : F.H0 = sub H [x]) (ht : ∀ l, l ∈ F.ls0 → ∃ o, H l = some o ∧ Plain o) (h : δ[0]? = some (.s d)) : ∃ C dx n fs ds, d = .obj n ds ∧ PySem.W.nsIn K mainGlobals n = some (some (.ref C)) ∧ H' x = some (.ins C dx fs) ∧ RepFs K (sub H' (F.ls0 ++ own)) fs ds := by
  obtain ⟨s0, e1, a, C, dx, n, fs, ds, rfl, ha, ed, hn, hH, rf⟩ := E.slot 0 _ h
  have h0 := E.lent 0 d a h e1
  rw [hx] at h0
  have : a = x := by
    by_cases z : a = x
    · exact z
    · rw [sub_out (by simpa using z)] at h0
      obtain ⟨o, e, nn⟩ := ht a ha
      rw [h0] at e; cases e
  subst this
  exact ⟨C, dx, n, fs, ds, ed, hn, hH, rf⟩
theorem links_endM {fo : List Addr} {x : Addr} {H : Hp} {Q : VK} {E : XK} {P : D → D → Prop} {EK : D → Er → Prop} {Hi : Hp} (ht : ∀ l, l ∈ fo → ∃ o, H l = some o ∧ Plain o)
    (hq : ∀ n' dfs' d v H' C' dx' fs', P (.obj n' dfs') d → PySem.W.nsIn K mainGlobals n' = some (some (.ref C')) → Same (sub H [x]) H' → H' x = some (.ins C' dx' fs') → RepFs K (sub H' fo) fs' dfs' → Rep K (sub H' fo) v d → Q v H')
    (he : ∀ n' dfs' er cls dd H' C' dx' fs', EK (.obj n' dfs') er → PySem.W.nsIn K mainGlobals n' = some (some (.ref C')) → Same (sub H [x]) H' → H' x = some (.ins C' dx' fs') → RepFs K (sub H' fo) fs' dfs' → RepEr K fo H' cls dd er → E cls dd H') :
    LinkS K (Wof E) ⟨fo, sub H [x], Hi⟩ (endM P EK) { nx := fun _ H' => Q .non H', rt := Q } := by
  have le : ∀ {H' : Hp} {own : List Addr}, Grow (sub H' (fo ++ own)) (sub H' fo) := sub_less fun a h => List.mem_append_left _ h
  refine ⟨fun σ H' own δ E' ⟨d, hd, q⟩ => ?_, fun v σ H' own δ r E' r' ⟨d, hd, q⟩ => ?_, fun _ _ _ _ _ q => q.elim, fun _ _ _ _ _ q => q.elim, fun er cls dd σ H' own δ E' ⟨d, hd, q⟩ r' => ?_⟩
  · obtain ⟨C, dx, n, fs, ds, rfl, hn, hx, rf⟩ := self_at E' rfl ht hd
    exact hq n ds .none .non H' C dx fs q hn E'.same hx (rf.mono le) .non
  · obtain ⟨C, dx, n, fs, ds, rfl, hn, hx, rf⟩ := self_at E' rfl ht hd
    exact hq n ds r v H' C dx fs q hn E'.same hx (rf.mono le) r'
  · obtain ⟨C, dx, n, fs, ds, rfl, hn, hx, rf⟩ := self_at E' rfl ht hd
    exact he n ds er cls dd H' C dx fs q hn E'.same hx (rf.mono le) (r'.less fun a h => List.mem_append_left _ h)
theorem fnM_of (F : Fun K x qual st f fd) (S : FnScope N ps (defScope st)) (hb : Binds K fd ps []) (hN : N ≠ [])
    (hbody : ∀ (cdv : Value) (A : Around) (outer : List Env) (s : Shared) (H : Hp) (E : XK), GdOk A base → Room k (A.deeper (envOfC qual (defScope st) s.heap.objs.size f cdv)) →
      DSs (cxOf (L2.CX P w) P w K mg base N qual (defScope st) f cdv A outer s H E) (Wof E) (defBody st) m) : FnM P w K mg base (k + 1) f (mFunM ps.length N.length m) := by
  refine fnP_of F S (sb := spM K (mFunM ps.length N.length m)) (fun s us vs H Q E hK r h => ?_) fun cdv A outer s H vs Q E hG hr h => ?_
  · obtain ⟨fo, x, C, dx, n, ws, fs, dfs, ds, PQ, EK, ev, hx, ht, tb, hn, ha, rf, rs, ⟨hl, hm⟩, q⟩ := id h
    have e : us.length = ps.length := by rw [← r.length, ev, List.length_cons, rs.length]; exact hl
    have b := hb s us hK (by rw [List.append_nil]; exact e)
    rw [List.append_nil] at b
    exact ⟨vs, us, r, by rw [← e, r.length], b, h⟩
  · obtain ⟨fo, x, C, dx, n, ws, fs, dfs, ds, PQ, EK, rfl, hx, ht, tb, hn, ha, rf, rs, ⟨hl, hm⟩, hq, he⟩ := h
    exact ⟨_, hbody cdv A outer s H E hG hr, ⟨fo, sub H [x], sub H fo⟩, [], _, _, env_startM hN hx ht tb hn ha rf rs, hm, links_endM ht hq he⟩
theorem fnM_def {dus : List Value} {dvs : List V} {dds : List D} (F : Fun K x qual st f fd) (S : FnScope N ps (defScope st)) (hb : ∀ j, Binds K fd ps (dus.drop j)) (hd : Vals dvs dus) (hdd : ∀ H, Reps K H dvs dds) (hN : N ≠ [])
    (hbody : ∀ (cdv : Value) (A : Around) (outer : List Env) (s : Shared) (H : Hp) (E : XK), GdOk A base → Room k (A.deeper (envOfC qual (defScope st) s.heap.objs.size f cdv)) →
      DSs (cxOf (L2.CX P w) P w K mg base N qual (defScope st) f cdv A outer s H E) (Wof E) (defBody st) m) : FnM P w K mg base (k + 1) f (mFunMD ps.length N.length dds m) := by
  have hlen : dvs.length = dds.length := (hdd fun _ => none).length
  have hdrop : ∀ (j : Nat) {as : List V} {bs : List Value}, Vals as bs → Vals (as.drop j) (bs.drop j) := fun j => by
    induction j with
    | zero => intro as bs r; exact r
    | succ j ih =>
      intro as bs r
      cases r with
      | nil => exact .nil
      | cons a r => exact ih r
  refine fnP_of F S (sb := spM K (mFunM ps.length N.length m)) (fun s us vs H Q E hK r h => ?_) fun cdv A outer s H vs Q E hG hr h => ?_
  · obtain ⟨fo, x, C, dx, n, ws, fs, dfs, ds, PQ, EK, ev, hx, ht, tb, hn, ha, rf, rs, ⟨h1, h2, hm⟩, q⟩ := id h
    subst ev
    let j := ds.length + 1 + dds.length - ps.length
    have el : us.length = ds.length + 1 := by rw [← r.length, List.length_cons, rs.length]
    have dl : (dds.drop j).length = ps.length - (ds.length + 1) := by rw [List.length_drop]; omega
    have el2 : (us ++ dus.drop j).length = ps.length := by
      rw [List.length_append, List.length_drop, ← hd.length, hlen, el]
      omega
    refine ⟨(.ref x :: ws) ++ dvs.drop j, us ++ dus.drop j, r.append (hdrop j hd), by rw [List.length_append, List.length_drop, List.length_cons, rs.length, hlen]; omega, hb j s us hK el2, fo, x, C, dx, n, ws ++ dvs.drop j, fs, dfs, ds ++ dds.drop j, PQ, EK, rfl, hx, ht, tb, hn, ha, rf, rs.append ((hdd _).drop j), ⟨by rw [List.length_append, dl]; omega, hm⟩, q⟩
  · obtain ⟨fo, x, C, dx, n, ws, fs, dfs, ds, PQ, EK, rfl, hx, ht, tb, hn, ha, rf, rs, ⟨hl, hm⟩, hq, he⟩ := h
    exact ⟨_, hbody cdv A outer s H E hG hr, ⟨fo, sub H [x], sub H fo⟩, [], _, _, env_startM hN hx ht tb hn ha rf rs, hm, links_endM ht hq he⟩
theorem fnM_star {p0 : Str} (F : Fun K x qual st f fd) (S : FnScope N ([p0] ++ [pv]) (defScope st)) (hb : ∀ us rest : List Value, us.length = [p0].length → bindArgs fd ⟨us ++ rest, []⟩ = (newTuple rest >>= fun t => pure ([p0].zip us ++ [(pv, t)]))) (hN : N ≠ [])
    (hbody : ∀ (cdv : Value) (A : Around) (outer : List Env) (s : Shared) (H : Hp) (E : XK), GdOk A base → Room k (A.deeper (envOfC qual (defScope st) s.heap.objs.size f cdv)) →
      DSs (cxOf (L2.CX P w) P w K mg base N qual (defScope st) f cdv A outer s H E) (Wof E) (defBody st) m) : FnM P w K mg base (k + 1) f (mFunMS N.length m) := by
  refine fnP_star F S (sb := spM K (mFunM 2 N.length m)) hb (fun vs H Q E h => ?_) fun cdv A outer s H vs Q E hG hr h => ?_
  · obtain ⟨fo, x, C, dx, n, ws, fs, dfs, ds, PQ, EK, rfl, hx, ht, tb, hn, ha, rf, rs, ⟨h1, hm⟩, hq, he⟩ := h
    have lv := rs.length
    refine ⟨[.ref x], ws, rfl, rfl, by omega, fun p hp => ?_⟩
    have g := (sub_same (ls := fo) (same_upd (o := .tup ws) hp).ob)
    have np : p ∉ fo := fun z => by
      obtain ⟨o, e, nn⟩ := ht p z
      rw [hp] at e; cases e
    have nx : x ≠ p := fun z => np (by rw [← z]; exact hx)
    have sx : Same (sub H [x]) (sub (upd H p (.tup ws)) [x]) := Same.of fun b u q => by
      by_cases hb : b ∈ [x]
      · rw [sub_in hb] at q; cases q
      · rw [sub_out hb] at q ⊢
        rw [upd_ne (ne_of_none q hp)]; exact q
    refine ⟨fo, x, C, dx, n, [.ref p], fs, dfs, [.tup ds], PQ, EK, rfl, hx, fun l hl => ?_, (same_upd hp).tb tb, hn, by rw [upd_ne nx]; exact ha, rf.mono g, .cons (.tup (.of (by rw [sub_out np]; exact upd_same)) (by omega) (rs.mono g)) .nil, ⟨rfl, hm⟩, fun n' dfs' d v H' C' dx' fs' pd hn' s => hq n' dfs' d v H' C' dx' fs' pd hn' (sx.trans s), fun n' dfs' er cls dd H' C' dx' fs' pd hn' s => he n' dfs' er cls dd H' C' dx' fs' pd hn' (sx.trans s)⟩
    obtain ⟨o, e, nn⟩ := ht l hl
    exact ⟨o, by rw [upd_ne (ne_of_none e hp)]; exact e, nn⟩
  · obtain ⟨fo, x, C, dx, n, ws, fs, dfs, ds, PQ, EK, rfl, hx, ht, tb, hn, ha, rf, rs, ⟨hl, hm⟩, hq, he⟩ := h
    exact ⟨_, hbody cdv A outer s H E hG hr, ⟨fo, sub H [x], sub H fo⟩, [], _, _, env_startM hN hx ht tb hn ha rf rs, hm, links_endM ht hq he⟩
end

/-! ### calls -/
section
variable {X : Cx} {W : WX} {a b c e o : Expr} {es : List Expr} {ba : Bool} {la : LM} {p pos : Pos} {x : Str} {k : Nat} {f : Addr} {m : FM}
theorem runP {pins : List (Addr × Obj)} {σ : L2.St} {H : Hp} {s : Shared} {Q : VK} {us : List Value} {vs : List V} {sp : Sp} {E : XK} (F : FnP X.prog X.w X.K X.mg X.base k f sp) (hG : GdOk X.A X.base) (hr : Room k X.A) (tk : Takes X W)
    (hE : ∀ cls dd H', E cls dd H' → W cls dd σ H') (I : Inv X pins σ H s) (r : Vals vs us) (h : sp vs H Q E) : wpAny (model X.prog X.w) X.A (call (.ref f) us) (EP X pins σ Q) X.xe s := by
  refine wpAny_call (codeAny_mono (F X.A X.stack s H us vs Q E hG hr I.env0 r h) fun r s' hq => ?_)
  cases r with
  | error e => exact tk e s' (XE.of_call I hE hq)
  | ok fl =>
    cases fl with
    | ret u => exact I.after hq
    | next => exact False.elim hq
    | brk => exact False.elim hq
    | cont => exact False.elim hq
def mCall (m : FM) (la : LM) : TM := fun δ Q E => la δ (fun ds => m ds Q E) E
theorem At.tabs {K : PySem.W.Frag} {W : WX} {σ : L2.St} {H : Hp} {F : Fm} {own : List Addr} {δ : List DV} {EK : Er → Prop} (A : At K W σ H F own δ EK) : LamX.Tabs TabsC.T H := A.env.tabs
theorem de_call (F : FnD X.prog X.w X.K X.mg X.base k f m) (hG : GdOk X.A X.base) (hr : Room k X.A) (tk : Takes X W) (hg : Gl X x) (hm : X.mg x = some (.ref f)) (hk : PySem.W.keepIn X.K (.ref f) = true)
    (ha : DA X W (e :: es) false la) (hdb : (x == ("__debug__" : Str)) = false := by decide) (he : starEach (e :: es) X.env = (false, eval e X.env) :: starEach es X.env := by rfl)
    (hpl : (backTo pos (starEach es X.env)).any (·.1) = false := by rfl) : DE X W (.Call (.Name x p) (e :: es) [] pos) false (mCall m la) := by
  refine ⟨fun pins s σ H Q I ⟨FF, own, δ, P, EK, A, mm, q⟩ => ?_⟩
  refine wpAny_Call_Name_kw (ld_glob I hg hm ?_ hdb)
  refine PySem.W.callWith_K (h₀ := X.base) I.ok.mod.kin hk (thn (ha.run pos pins s σ H (fun vs H1 => ∃ ds, m ds P EK ∧ Same H H1 ∧ RVs X.K FF.ls0 (FF.ls0 ++ own) H1 false vs ds) I
    ⟨FF, own, δ, _, EK, A, mm, fun ds vs H1 p1 s1 r1 => ⟨ds, p1, s1, r1⟩⟩) fun us s1 ⟨vs, H1, I1, rv, ds, hm1, s01, rr⟩ => ⟨I1.kIn, ?_⟩) he hpl
  have A1 := A.on s01
  exact runP F hG hr tk (E := fun cls dd H' => W cls dd σ H') (fun _ _ _ h => h) I1 rv ⟨FF.ls0 ++ own, ds, P, EK, A1.env.trk, A1.tabs, rr.clean, hm1, fun d v H' pd s2 r2 => q d v H' pd (s01.trans s2) (.cl r2), fun er cls dd H' ke s2 r2 => A1.pass er cls dd H' ke s2 r2⟩
def mCall0 (m : FM) : TM := fun _ Q E => m [] Q E
theorem de_call0 (F : FnD X.prog X.w X.K X.mg X.base k f m) (hG : GdOk X.A X.base) (hr : Room k X.A) (tk : Takes X W) (hg : Gl X x) (hm : X.mg x = some (.ref f)) (hk : PySem.W.keepIn X.K (.ref f) = true) (hdb : (x == ("__debug__" : Str)) = false := by decide) :
    DE X W (.Call (.Name x p) [] [] pos) false (mCall0 m) := by
  refine ⟨fun pins s σ H Q I ⟨FF, own, δ, P, EK, A, mm, q⟩ => ?_⟩
  refine wpAny_Call_Name_kw (ld_glob I hg hm ?_ hdb)
  exact PySem.W.callWith_K0 I.kIn hk (runP (us := []) (vs := []) F hG hr tk (E := fun cls dd H' => W cls dd σ H') (fun _ _ _ h => h) I .nil
    ⟨FF.ls0 ++ own, [], P, EK, A.env.trk, A.tabs, .nil, mm, fun d v H' pd s2 r2 => q d v H' pd s2 (.cl r2), fun er cls dd H' ke s2 r2 => A.pass er cls dd H' ke s2 r2⟩)
end
end DL

set_option Elab.async false
set_option linter.all false
set_option maxRecDepth 100000
set_option maxHeartbeats 4000000
/-! DL6: operators and built-ins on data. -/
namespace DL
open PySem PySem.Spec PyProof.Rows L2
variable [TabsC]

section
variable {X : Cx} {W : WX}
/-! ### arithmetic -/
def fAdd (x y : D) (Q : D → Prop) : Prop := match x, y with
  | .int i, .int j => Q (.int (i + j))
  | .str a, .str b => a.length + b.length ≤ sizeLine ∧ Q (.str (a ++ b))
  | .tup xs, .tup ys => xs.length + ys.length ≤ sizeLine ∧ Q (.tup (xs ++ ys))
  | .list xs, .list ys => xs.length + ys.length ≤ sizeLine ∧ Q (.list (xs ++ ys))
  | _, _ => False
theorem op_addD : OpR X (binaryOp .Add) (fun x y H Q => rI0 (fun i j => .int (i + j)) x y H Q ∨ ((∃ i j, x = V.str i ∧ y = V.str j ∧ i.length + j.length ≤ sizeLine ∧ Q (V.str (i ++ j)) H) ∨ (rCatA X.K x y H Q ∨ rCat x y H Q))) := op_add.or (op_add_str.or (op_catA.or op_cat))
theorem nofr {H : Hp} {ls : List Addr} {p : Addr} (ht : ∀ l, l ∈ ls → ∃ o, H l = some o ∧ Plain o) (hp : H p = none) : p ∉ ls := fun z => by
  obtain ⟨o, e, nn⟩ := ht p z
  rw [hp] at e; cases e
theorem new_tup {K : PySem.W.Frag} {H : Hp} {ls : List Addr} {p : Addr} {xs : List V} {ds : List D} (ht : ∀ l, l ∈ ls → ∃ o, H l = some o ∧ Plain o) (hp : H p = none) (hz : xs.length ≤ sizeLine) (r : Reps K (sub H ls) xs ds) : Rep K (sub (upd H p (.tup xs)) ls) (.ref p) (.tup ds) :=
  .tup (.of (by rw [sub_out (nofr ht hp)]; exact upd_same)) hz (r.mono (sub_same (same_upd hp).ob))
theorem new_list {K : PySem.W.Frag} {H : Hp} {ls : List Addr} {p : Addr} {xs : List V} {ds : List D} (ht : ∀ l, l ∈ ls → ∃ o, H l = some o ∧ Plain o) (hp : H p = none) (hz : xs.length ≤ sizeLine) (r : Reps K (sub H ls) xs ds) : Rep K (sub (upd H p (.lst xs)) ls) (.ref p) (.list ds) :=
  .list (by rw [sub_out (nofr ht hp)]; exact upd_same) hz (r.mono (sub_same (same_upd hp).ob))
theorem link_add : LinkOp X.K (fun x y H Q => rI0 (fun i j => .int (i + j)) x y H Q ∨ ((∃ i j, x = V.str i ∧ y = V.str j ∧ i.length + j.length ≤ sizeLine ∧ Q (V.str (i ++ j)) H) ∨ (rCatA X.K x y H Q ∨ rCat x y H Q))) fAdd := by
  intro fo ls H x y dx dy P Q ht rx ry h q
  unfold fAdd at h
  split at h
  · exact .inl ⟨_, _, rx.isInt, ry.isInt, q _ _ H h (Same.refl H) (.int _)⟩
  · exact .inr (.inl ⟨_, _, rx.isStr, ry.isStr, h.1, q _ _ H h.2 (Same.refl H) (.str _)⟩)
  · obtain ⟨hz, h⟩ := h
    obtain ⟨a, us, rfl, ha, hl, rs⟩ := rx.tup
    obtain ⟨b, ws, rfl, hb, hl2, rs2⟩ := ry.tup
    have hz' : us.length + ws.length ≤ sizeLine := by rw [rs.length, rs2.length]; exact hz
    refine .inr (.inr (.inl ⟨a, b, us, ws, rfl, rfl, ha, hb, hz', fun e => ?_, fun _ e => ?_, fun _ _ p hp => ?_⟩))
    · subst e
      cases rs
      cases ry with
      | cl ry => exact q _ _ H h (Same.refl H) (by simpa using ry)
    · subst e
      cases rs2
      cases rx with
      | cl rx => exact q _ _ H h (Same.refl H) (by simpa using rx)
    · exact q _ _ _ h (same_upd hp) (new_tup ht hp (by rw [List.length_append]; exact hz') (rs.append rs2))
  · obtain ⟨hz, h⟩ := h
    obtain ⟨a, us, rfl, ha, hl, rs⟩ := rx.list
    obtain ⟨b, ws, rfl, hb, hl2, rs2⟩ := ry.list
    have hz' : us.length + ws.length ≤ sizeLine := by rw [rs.length, rs2.length]; exact hz
    exact .inr (.inr (.inr ⟨a, b, us, ws, rfl, rfl, ha, hb, hz', fun p hp => q _ _ _ h (same_upd hp) (new_list ht hp (by rw [List.length_append]; exact hz') (rs.append rs2))⟩))
  · exact h.elim
/-- two ints -/
def fI (C : Int → Int → Prop) (g : Int → Int → Int) (x y : D) (Q : D → Prop) : Prop := match x, y with
  | .int i, .int j => C i j ∧ Q (.int (g i j))
  | _, _ => False
theorem link_I {C : Int → Int → Prop} {g : Int → Int → Int} : LinkOp X.K (rI C fun i j => .int (g i j)) (fI C g) := by
  intro fo ls H x y dx dy P Q ht rx ry h q
  unfold fI at h
  split at h
  · exact ⟨_, _, rx.isInt, ry.isInt, h.1, q _ _ H h.2 (Same.refl H) (.int _)⟩
  · exact h.elim
def fSub (x y : D) (Q : D → Prop) : Prop := match x, y with
  | .int i, .int j => Q (.int (i - j))
  | _, _ => False
theorem link_sub : LinkOp X.K (rI0 fun i j => .int (i - j)) fSub := by
  intro fo ls H x y dx dy P Q ht rx ry h q
  unfold fSub at h
  split at h
  · exact ⟨_, _, rx.isInt, ry.isInt, q _ _ H h (Same.refl H) (.int _)⟩
  · exact h.elim
theorem op_mulD : OpR X (binaryOp .Mult) (rI IntMulOk fun i j => .int (i * j)) := opI fun _ _ _ _ _ _ _ hc q => mul_int q hc
def CPowD (i j : Int) : Prop := 0 ≤ j ∧ (Builtin.Int.intBits i : Int) * j ≤ 2 ^ 27
theorem op_powD : OpR X (binaryOp .Pow) (rI CPowD fun i j => .int (i ^ j.toNat)) := opI fun _ _ _ _ _ _ _ hc q => pow_int hc.1 hc.2 q
abbrev fMul := fI IntMulOk fun i j => i * j
abbrev fDiv := fI CDivW fun i j => i / j
abbrev fMod := fI (fun _ j => 0 < j) fun i j => i % j
abbrev fPow := fI CPowD fun i j => i ^ j.toNat
variable {a b e : Expr} {es : List Expr} {ba bb : Bool} {ma mb : TM} {la : LM} {pos p : Pos} {x : Str}
theorem de_add (ha : DE X W a ba ma) (hb : DE X W b bb mb) : DE X W (.BinOp a .Add b pos) false (mBin fAdd ma mb) := de_op op_addD link_add ha hb
theorem de_sub (ha : DE X W a ba ma) (hb : DE X W b bb mb) : DE X W (.BinOp a .Sub b pos) false (mBin fSub ma mb) := de_op op_sub link_sub ha hb
theorem de_mul (ha : DE X W a ba ma) (hb : DE X W b bb mb) : DE X W (.BinOp a .Mult b pos) false (mBin fMul ma mb) := de_op op_mulD link_I ha hb
theorem de_div (ha : DE X W a ba ma) (hb : DE X W b bb mb) : DE X W (.BinOp a .FloorDiv b pos) false (mBin fDiv ma mb) := de_op op_fdivW link_I ha hb
theorem de_mod (ha : DE X W a ba ma) (hb : DE X W b bb mb) : DE X W (.BinOp a .Mod b pos) false (mBin fMod ma mb) := de_op op_mod link_I ha hb
theorem de_pow (ha : DE X W a ba ma) (hb : DE X W b bb mb) : DE X W (.BinOp a .Pow b pos) false (mBin fPow ma mb) := de_op op_powD link_I ha hb
def mNeg (ma : TM) : TM := fun δ Q E => ma δ (fun d => ∃ i, d = .int i ∧ Q (.int (-i))) E
theorem de_neg (ha : DE X W a ba ma) : DE X W (.UnaryOp .USub a pos) false (mNeg ma) :=
  PE.imp (pe_un un_neg ha) fun σ H Q ⟨F, own, δ, P, EK, A, m, q⟩ => ⟨F, own, δ, _, EK, A, m, fun d v H' ⟨i, ed, p⟩ s r => by
    subst ed
    exact ⟨i, r.isInt, q _ _ H' p s (.cl (.int _))⟩⟩

/-! ### comparisons -/
def fCmp (g : Int → Int → Bool) (h : List Nat → List Nat → Bool) (x y : D) (Q : Bool → Prop) : Prop := match x, y with
  | .int i, .int j => Q (g i j)
  | .str a, .str b => Q (h a.cps.toList b.cps.toList)
  | _, _ => False
theorem link_cmp {g : Int → Int → Bool} {h : List Nat → List Nat → Bool} : LinkCmp X.K (fun x y H Q => rI0 (fun i j => .bl (g i j)) x y H Q ∨ ∃ i j, x = V.str i ∧ y = V.str j ∧ Q (V.bl (h i.cps.toList j.cps.toList)) H) (fCmp g h) := by
  intro fo ls H x y dx dy P Q rx ry hh q
  unfold fCmp at hh
  split at hh
  · exact .inl ⟨_, _, rx.isInt, ry.isInt, q _ hh⟩
  · exact .inr ⟨_, _, rx.isStr, ry.isStr, q _ hh⟩
  · exact hh.elim
abbrev fLt := fCmp (fun i j => decide (i < j)) fun i j => decide (i < j)
abbrev fLe := fCmp (fun i j => decide (i ≤ j)) fun i j => !decide (j < i)
abbrev fGt := fCmp (fun i j => decide (j < i)) fun i j => decide (j < i)
abbrev fGe := fCmp (fun i j => decide (j ≤ i)) fun i j => !decide (i < j)
theorem op_ltD : OpR X (compareOp .Lt) (fun x y H Q => rI0 (fun i j => .bl (decide (i < j))) x y H Q ∨ ∃ i j, x = V.str i ∧ y = V.str j ∧ Q (V.bl (decide (i.cps.toList < j.cps.toList))) H) := op_lt.or op_lt_str
theorem op_leD : OpR X (compareOp .LtE) (fun x y H Q => rI0 (fun i j => .bl (decide (i ≤ j))) x y H Q ∨ ∃ i j, x = V.str i ∧ y = V.str j ∧ Q (V.bl (!decide (j.cps.toList < i.cps.toList))) H) := op_le.or op_le_str
theorem op_gtD : OpR X (compareOp .Gt) (fun x y H Q => rI0 (fun i j => .bl (decide (j < i))) x y H Q ∨ ∃ i j, x = V.str i ∧ y = V.str j ∧ Q (V.bl (decide (j.cps.toList < i.cps.toList))) H) := op_gt.or op_gt_str
theorem op_geD : OpR X (compareOp .GtE) (fun x y H Q => rI0 (fun i j => .bl (decide (j ≤ i))) x y H Q ∨ ∃ i j, x = V.str i ∧ y = V.str j ∧ Q (V.bl (!decide (i.cps.toList < j.cps.toList))) H) := op_ge.or op_ge_str
theorem link_lt : LinkCmp X.K (fun x y H Q => rI0 (fun i j => .bl (decide (i < j))) x y H Q ∨ ∃ i j, x = V.str i ∧ y = V.str j ∧ Q (V.bl (decide (i.cps.toList < j.cps.toList))) H) fLt := link_cmp
theorem link_le : LinkCmp X.K (fun x y H Q => rI0 (fun i j => .bl (decide (i ≤ j))) x y H Q ∨ ∃ i j, x = V.str i ∧ y = V.str j ∧ Q (V.bl (!decide (j.cps.toList < i.cps.toList))) H) fLe := link_cmp (h := fun i j => !decide (j < i))
theorem link_gt : LinkCmp X.K (fun x y H Q => rI0 (fun i j => .bl (decide (j < i))) x y H Q ∨ ∃ i j, x = V.str i ∧ y = V.str j ∧ Q (V.bl (decide (j.cps.toList < i.cps.toList))) H) fGt := link_cmp (g := fun i j => decide (j < i)) (h := fun i j => decide (j < i))
theorem link_ge : LinkCmp X.K (fun x y H Q => rI0 (fun i j => .bl (decide (j ≤ i))) x y H Q ∨ ∃ i j, x = V.str i ∧ y = V.str j ∧ Q (V.bl (!decide (i.cps.toList < j.cps.toList))) H) fGe := link_cmp (g := fun i j => decide (j ≤ i)) (h := fun i j => !decide (i < j))
theorem link_is : LinkCmp X.K (fun x y H Q => y = .non ∧ Q (.bl (decide (x = .non))) H) fIs := by
  intro fo ls H x y dx dy P Q rx ry h q
  obtain ⟨rfl, h⟩ := h
  exact ⟨ry.non, by rw [rx.isNone]; exact q _ h⟩
theorem link_isnot : LinkCmp X.K (fun x y H Q => y = .non ∧ Q (.bl (!decide (x = .non))) H) fIsNot := by
  intro fo ls H x y dx dy P Q rx ry h q
  obtain ⟨rfl, h⟩ := h
  exact ⟨ry.non, by rw [rx.isNone]; exact q _ h⟩
/-- is, is not of bools -/
def fIsB (x y : D) (Q : Bool → Prop) : Prop := match x, y with
  | .bool i, .bool j => Q (decide (i = j))
  | _, _ => False
def fIsNotB (x y : D) (Q : Bool → Prop) : Prop := match x, y with
  | .bool i, .bool j => Q (!decide (i = j))
  | _, _ => False
theorem link_isB : LinkCmp X.K rIsB fIsB := by
  intro fo ls H x y dx dy P Q rx ry h q
  unfold fIsB at h
  split at h
  · exact ⟨_, _, rx.isBool, ry.isBool, q _ h⟩
  · exact h.elim
theorem link_isNotB : LinkCmp X.K rNotB fIsNotB := by
  intro fo ls H x y dx dy P Q rx ry h q
  unfold fIsNotB at h
  split at h
  · exact ⟨_, _, rx.isBool, ry.isBool, q _ h⟩
  · exact h.elim

/-! ### data that can be compared and shown -/
def keyPy : Key → PyData
  | .inl i => .int i
  | .inr x => .str x
mutual
def D.py : D → PyData
  | .none => .none
  | .bool b => .bool b
  | .int i => .int i
  | .str s => .str s
  | .list xs => .list (D.pys xs)
  | .tup xs => .tuple (D.pys xs)
  | .dict kvs => .dict (D.pyKs kvs)
  | .obj _ _ => .none
  | .dice => .none
  | .script _ => .none
  | .opq _ _ => .none
  | .ty _ => .none
  | .fn _ => .none
  | .exc _ _ _ _ _ => .none
def D.pys : List D → List PyData
  | [] => []
  | x :: xs => D.py x :: D.pys xs
def D.pyKs : List (Key × D) → List (PyData × PyData)
  | [] => []
  | (k, x) :: xs => (keyPy k, D.py x) :: D.pyKs xs
end
mutual
def D.isPy : D → Bool
  | .none => true
  | .bool _ => true
  | .int _ => true
  | .str _ => true
  | .list xs => D.arePy xs
  | .tup xs => D.arePy xs
  | .dict kvs => D.areKs kvs
  | .obj _ _ => false
  | .dice => false
  | .script _ => false
  | .opq _ _ => false
  | .ty _ => false
  | .fn _ => false
  | .exc _ _ _ _ _ => false
def D.arePy : List D → Bool
  | [] => true
  | x :: xs => D.isPy x && D.arePy xs
def D.areKs : List (Key × D) → Bool
  | [] => true
  | (_, x) :: xs => D.isPy x && D.areKs xs
end
mutual
theorem Rep.dp {K : PySem.W.Frag} {H : Hp} : ∀ {v : V} {d : D}, Rep K H v d → d.isPy = true → d.py.canLay0 = true → Dp K H v d.py
  | _, _, .non, _, _ => .non
  | _, _, .bool b, _, _ => .bl b
  | _, _, .int i, _, _ => .int i
  | _, _, .str x, _, _ => .str x
  | _, _, .list h _ r, p, q => .lst (.of h) (Reps.dp r (by simpa [D.isPy] using p) (by simpa [D.py, PyData.canLay0] using q))
  | _, _, .tup h _ r, p, q => .tup h (Reps.dp r (by simpa [D.isPy] using p) (by simpa [D.py, PyData.canLay0] using q))
  | _, _, .dict _ _ _, _, q => by simp [D.py, PyData.canLay0] at q
  | _, _, .obj _ _ _, p, _ => by simp [D.isPy] at p
  | _, _, .dice _, p, _ => by simp [D.isPy] at p
  | _, _, .script _ _, p, _ => by simp [D.isPy] at p
  | _, _, .opq _, p, _ => by simp [D.isPy] at p
  | _, _, .ty _, p, _ => by simp [D.isPy] at p
  | _, _, .fn _, p, _ => by simp [D.isPy] at p
  | _, _, .exc _ _ _, p, _ => by simp [D.isPy] at p
theorem Reps.dp {K : PySem.W.Frag} {H : Hp} : ∀ {vs : List V} {ds : List D}, Reps K H vs ds → D.arePy ds = true → PyData.canLayAll0 (D.pys ds) = true → DpAll K H vs (D.pys ds)
  | _, _, .nil, _, _ => .nil
  | _, _, .cons r t, p, q => by
    have p' : _ = true ∧ _ = true := (by simpa [D.arePy] using p : D.isPy _ = true ∧ D.arePy _ = true)
    have q' : _ = true ∧ _ = true := (by simpa [D.pys, PyData.canLayAll0] using q : PyData.canLay0 (D.py _) = true ∧ PyData.canLayAll0 (D.pys _) = true)
    exact .cons (Rep.dp r p'.1 q'.1) (Reps.dp t p'.2 q'.2)
end
/-! what stands in the heap, read as data -/
section
variable {X : Cx} {pins : List (Addr × Obj)} {σ : L2.St} {H : Hp} {s : Shared}
theorem no_mods {a : Addr} {o : Obj} {xs : Array Value} {n : Nat} (I : Inv X pins σ H s) (hM : ∃ mm, X.base.Ns sysModules mm) (h : s.heap.get? a = some o) (hd : o.data = .seq xs n) : a ≠ sysModules := fun e => by
  obtain ⟨mm, o', es, ep, e', d, _⟩ := hM
  have k := I.bk _ _ e'
  rw [e, k] at h
  cases h
  rw [d] at hd
  cases hd
theorem key_reads {h : Heap} {k : Key} {v : Value} (e : keyIs k v = true) : Reads h v (keyPy k) [] := by
  rcases keyIs_shape e with ⟨i, t, rfl, rfl⟩ | ⟨x, t, rfl, rfl⟩
  · exact .int i t
  · exact .str x t
theorem pyKs_fst : ∀ kvs : List (Key × D), (D.pyKs kvs).map (·.1) = kvs.map fun kv => keyPy kv.1
  | [] => rfl
  | (k, x) :: xs => by simp only [D.pyKs, List.map_cons, pyKs_fst xs]
theorem keys_reads {h : Heap} : ∀ {es : List DictEntry} {kvs : List (Key × Value)} {ds : List (Key × D)}, Pairs (mixKind X.prog X.w) es kvs → kvs.map (·.1) = ds.map (·.1) → ReadsAll h (es.map (·.key)) ((D.pyKs ds).map (·.1)) []
  | _, _, [], .nil, _ => .nil
  | _, _, _ :: _, .nil, e => by simp at e
  | _, _, [], .cons _ _ _, e => by simp at e
  | _, _, (k, d) :: ds, .cons (kv := kv) h1 _ r, e => by
    have e1 : kv.1 = k := by simpa using (List.cons.inj e).1
    have e2 := (List.cons.inj e).2
    have h1' : keyIs kv.1 _ = true := h1
    rw [e1] at h1'
    exact .cons (as := []) (bs := []) (key_reads h1') (keys_reads r e2)
theorem KV.keys : ∀ {kvs : List (Key × V)} {vs : List (Key × Value)}, KV kvs vs → kvs.map (·.1) = vs.map (·.1)
  | _, _, .nil => rfl
  | _, _, .cons h r => by
    have e := KV.keys r
    simp only [List.map_cons, h.1]
    rw [e]
theorem RepKs.keys0 {K : PySem.W.Frag} {H : Hp} : ∀ {vs : List (Key × V)} {ds : List (Key × D)}, RepKs K H vs ds → vs.map (·.1) = ds.map (·.1)
  | _, _, .nil => rfl
  | _, _, .cons _ r => by simp only [List.map_cons, RepKs.keys0 r]
mutual
theorem Rep.reads (I : Inv X pins σ H s) (hM : ∃ mm, X.base.Ns sysModules mm) : ∀ {v : V} {d : D} {u : Value}, Rep X.K H v d → RelV v u → d.isPy = true → ∃ as, Reads s.heap u d.py as ∧ sysModules ∉ as
  | _, _, _, .non, r, _ => by cases r; exact ⟨_, .none, by simp⟩
  | _, _, _, .bool b, r, _ => by cases r; exact ⟨_, .bool b, by simp⟩
  | _, _, _, .int i, r, _ => by obtain ⟨t, rfl⟩ := r; exact ⟨_, .int i t, by simp⟩
  | _, _, _, .str x, r, _ => by obtain ⟨t, rfl⟩ := r; exact ⟨_, .str x t, by simp⟩
  | _, _, _, .list h _ rr, r, p => by
    cases r
    obtain ⟨its, rv, pl, _⟩ := I.list (.of h)
    obtain ⟨o, ho, hc, n, hd⟩ := pl.isList
    obtain ⟨as, r1, n1⟩ := Reps.reads I hM rr rv (by simpa [D.isPy] using p)
    exact ⟨_, .list ho hc hd (by simpa using r1), fun z => (List.mem_cons.mp z).elim (fun z => no_mods I hM ho hd z.symm) n1⟩
  | _, _, _, .tup h _ rr, r, p => by
    cases r
    obtain ⟨its, rv, pl, _⟩ := I.tuple h
    obtain ⟨o, ho, hc, n, hd⟩ := pl
    obtain ⟨as, r1, n1⟩ := Reps.reads I hM rr rv (by simpa [D.isPy] using p)
    exact ⟨_, .tuple ho hc hd (by simpa using r1), n1⟩
  | _, _, _, .dict h _ rr, r, p => by
    cases r
    obtain ⟨_, hs0, vs, kv, o, es, ep, ho, hx, hd, hk, hp, _⟩ := dk_rd I.hok (.inr ⟨_, h⟩)
    obtain ⟨bs, r2, n2⟩ := RepKs.reads I hM rr kv hp (by simpa [D.isPy] using p)
    have r1 := keys_reads (h := s.heap) hp (by rw [← KV.keys kv]; exact rr.keys0)
    refine ⟨_, .dict ho hx.1 hd r1 r2, fun z => ?_⟩
    rcases List.mem_cons.mp z with z | z
    · rw [z] at hs0
      simp at hs0
    · exact n2 (by simpa using z)
  | _, _, _, .obj _ _ _, _, p => by simp [D.isPy] at p
  | _, _, _, .dice _, _, p => by simp [D.isPy] at p
  | _, _, _, .script _ _, _, p => by simp [D.isPy] at p
  | _, _, _, .opq _, _, p => by simp [D.isPy] at p
  | _, _, _, .ty _, _, p => by simp [D.isPy] at p
  | _, _, _, .fn _, _, p => by simp [D.isPy] at p
  | _, _, _, .exc _ _ _, _, p => by simp [D.isPy] at p
theorem Reps.reads (I : Inv X pins σ H s) (hM : ∃ mm, X.base.Ns sysModules mm) : ∀ {vs : List V} {ds : List D} {us : List Value}, Reps X.K H vs ds → Vals vs us → D.arePy ds = true → ∃ as, ReadsAll s.heap us (D.pys ds) as ∧ sysModules ∉ as
  | _, _, _, .nil, r, _ => by cases r; exact ⟨_, .nil, by simp⟩
  | _, _, _, .cons a t, r, p => by
    have p' : _ = true ∧ _ = true := (by simpa [D.arePy] using p : D.isPy _ = true ∧ D.arePy _ = true)
    cases r with
    | cons r1 r2 =>
      obtain ⟨as, q1, n1⟩ := Rep.reads I hM a r1 p'.1
      obtain ⟨bs, q2, n2⟩ := Reps.reads I hM t r2 p'.2
      exact ⟨_, .cons q1 q2, fun z => (List.mem_append.mp z).elim n1 n2⟩
theorem RepKs.reads (I : Inv X pins σ H s) (hM : ∃ mm, X.base.Ns sysModules mm) : ∀ {vs : List (Key × V)} {ds : List (Key × D)} {us : List (Key × Value)} {es : List DictEntry}, RepKs X.K H vs ds → KV vs us → Pairs (mixKind X.prog X.w) es us → D.areKs ds = true → ∃ as, ReadsAll s.heap (es.map (·.val)) ((D.pyKs ds).map (·.2)) as ∧ sysModules ∉ as
  | _, _, _, _, .nil, r, q, _ => by cases r; cases q; exact ⟨_, .nil, by simp⟩
  | _, _, _, _, .cons a t, r, q, p => by
    have p' : _ = true ∧ _ = true := (by simpa [D.areKs] using p : D.isPy _ = true ∧ D.areKs _ = true)
    cases r with
    | cons r1 r2 =>
      cases q with
      | cons k1 k2 k3 =>
        obtain ⟨as, q1, n1⟩ := Rep.reads I hM a r1.2 p'.1
        obtain ⟨bs, q2, n2⟩ := RepKs.reads I hM t r2 k3 p'.2
        rw [← k2] at q1
        exact ⟨_, .cons q1 q2, fun z => (List.mem_append.mp z).elim n1 n2⟩
end
end
def D.fine (d : D) : Bool := d.isPy && SeqAt.shaped d.py
def eqD (x y : D) : Bool := PyData.eqv x.py y.py
def fEq (x y : D) (Q : Bool → Prop) : Prop := x.fine = true ∧ y.fine = true ∧ Q (eqD x y)
def fNe (x y : D) (Q : Bool → Prop) : Prop := x.fine = true ∧ y.fine = true ∧ Q (!eqD x y)
theorem fine_and {d : D} (h : d.fine = true) : d.isPy = true ∧ SeqAt.shaped d.py = true := by simpa [D.fine] using h
theorem fine_lay {d : D} (h : d.fine = true) : d.py.canLay0 = true := by
  have := (fine_and h).2
  unfold SeqAt.shaped at this
  exact (Bool.and_eq_true_iff.mp this).1
theorem fine_nodic {d : D} (h : d.fine = true) : isDic d = false := by
  have := fine_lay h
  cases d with
  | dict _ => simp [D.py, PyData.canLay0] at this
  | _ => rfl
theorem RV.dpf {K : PySem.W.Frag} {fo ls : List Addr} {H : Hp} {b : Bool} {v : V} {d : D} (r : RV K fo ls H b v d) (h : d.fine = true) : Dp K H v d.py := (r.rep (fine_nodic h)).dp (fine_and h).1 (fine_lay h)
theorem link_eq : LinkCmp X.K (rEqD X.K) fEq := by
  intro fo ls H x y dx dy P Q rx ry ⟨h1, h2, h⟩ q
  exact ⟨_, _, rx.dpf h1, ry.dpf h2, (fine_and h1).2, (fine_and h2).2, q _ h⟩
theorem link_ne : LinkCmp X.K (rNeD X.K) fNe := by
  intro fo ls H x y dx dy P Q rx ry ⟨h1, h2, h⟩ q
  exact ⟨_, _, rx.dpf h1, ry.dpf h2, (fine_and h1).2, (fine_and h2).2, q _ h⟩
/-- in: a sign in a text, an item in a list or a tuple -/
def inD (x : D) (ds : List D) : Bool := ds.any fun z => eqD z x
def fIn (x y : D) (Q : Bool → Prop) : Prop := match y with
  | .str z => ∃ c, x = .str ⟨#[c]⟩ ∧ Q (decide (c ∈ z.cps.toList))
  | .list ds => x.fine = true ∧ (D.list ds).fine = true ∧ Q (inD x ds)
  | _ => False
theorem pys_any {x : D} : ∀ ds : List D, ((D.pys ds).any fun z => PyData.eqv z x.py) = inD x ds
  | [] => by simp [D.pys, inD]
  | d :: ds => by
    have := pys_any (x := x) ds
    unfold inD at this ⊢
    simp only [D.pys, List.any_cons, this]
    rfl
/-! ### built-ins -/
def fLen (ds : List D) (Q : D → Prop) : Prop := match ds with
  | [.list xs] => Q (.int xs.length)
  | [.tup xs] => Q (.int xs.length)
  | [.script ns] => Q (.int ns.length)
  | [.str z] => z.length ≤ sizeLine ∧ Q (.int z.length)
  | _ => False
theorem link_len : LinkB X.K (fun xs H Q => ∃ x n, xs = [x] ∧ LenV X.K x H n ∧ Q (.int n) H) fLen := by
  intro fo ls H vs ds P Q ht r h q
  unfold fLen at h
  split at h
  · obtain ⟨v, rfl, rr⟩ := r.one
    obtain ⟨a, xs, rfl, h1, h2, h3⟩ := rr.list
    exact ⟨_, _, rfl, .inl ⟨xs, .of h1, h3.length.symm⟩, q _ _ H h (Same.refl H) (.int _)⟩
  · obtain ⟨v, rfl, rr⟩ := r.one
    obtain ⟨a, xs, rfl, h1, h2, h3⟩ := rr.tup
    exact ⟨_, _, rfl, .inr ⟨xs, h1, h3.length.symm⟩, q _ _ H h (Same.refl H) (.int _)⟩
  · obtain ⟨v, rfl, rr⟩ := r.one
    cases rr with
    | cl r =>
      cases r with
      | script h1 h2 => exact ⟨_, _, rfl, .inl ⟨_, sub_le.seq h1, by rw [List.length_map]⟩, q _ _ H h (Same.refl H) (.int _)⟩
  · obtain ⟨v, rfl, rr⟩ := r.one
    rw [rr.isStr]
    exact ⟨_, _, rfl, ⟨h.1, rfl⟩, q _ _ H h.2 (Same.refl H) (.int _)⟩
  · exact h.elim
def fAbs (ds : List D) (Q : D → Prop) : Prop := ∃ i : Int, ds = [.int i] ∧ Q (.int (if i < 0 then -i else i))
theorem link_abs : LinkB X.K (fun xs H Q => ∃ i, xs = [V.int i] ∧ Q (V.int (if i < 0 then -i else i)) H) fAbs := by
  intro fo ls H vs ds P Q ht r ⟨i, e, h⟩ q
  subst e
  obtain ⟨v, rfl, rr⟩ := r.one
  exact ⟨i, by rw [rr.isInt], q _ _ H h (Same.refl H) (.int _)⟩
def fMax2 (ds : List D) (Q : D → Prop) : Prop := ∃ i j : Int, ds = [.int i, .int j] ∧ Q (.int (if j > i then j else i))
theorem link_max2 : LinkB X.K (fun xs H Q => ∃ i j, xs = [V.int i, V.int j] ∧ Q (V.int (if j > i then j else i)) H) fMax2 := by
  intro fo ls H vs ds P Q ht r ⟨i, j, e, h⟩ q
  subst e
  obtain ⟨v, v', rfl, r1, r2⟩ := r.two
  exact ⟨i, j, by rw [r1.isInt, r2.isInt], q _ _ H h (Same.refl H) (.int _)⟩
def fMin2 (ds : List D) (Q : D → Prop) : Prop := ∃ i j : Int, ds = [.int i, .int j] ∧ Q (.int (if j < i then j else i))
theorem link_min2 : LinkB X.K (fun xs H Q => ∃ i j, xs = [V.int i, V.int j] ∧ Q (V.int (if j < i then j else i)) H) fMin2 := by
  intro fo ls H vs ds P Q ht r ⟨i, j, e, h⟩ q
  subst e
  obtain ⟨v, v', rfl, r1, r2⟩ := r.two
  exact ⟨i, j, by rw [r1.isInt, r2.isInt], q _ _ H h (Same.refl H) (.int _)⟩
def fInt (ds : List D) (Q : D → Prop) : Prop := match ds with
  | [.int i] => Q (.int i)
  | [.bool k] => Q (.int (if k then 1 else 0))
  | _ => False
theorem link_int : LinkB X.K (fun xs H Q => (∃ i, xs = [V.int i] ∧ Q (.int i) H) ∨ ∃ k, xs = [V.bl k] ∧ Q (V.int (if k then 1 else 0)) H) fInt := by
  intro fo ls H vs ds P Q ht r h q
  unfold fInt at h
  split at h
  · obtain ⟨v, rfl, rr⟩ := r.one
    exact .inl ⟨_, by rw [rr.isInt], q _ _ H h (Same.refl H) (.int _)⟩
  · obtain ⟨v, rfl, rr⟩ := r.one
    exact .inr ⟨_, by rw [rr.isBool], q _ _ H h (Same.refl H) (.int _)⟩
  · exact h.elim
def fStr (ds : List D) (Q : D → Prop) : Prop := ∃ i : Int, ds = [.int i] ∧ i.natAbs.log2 < 1920 ∧ Q (.str (toString i))
theorem link_str : LinkB X.K (fun xs H Q => ∃ i : Int, xs = [V.int i] ∧ i.natAbs.log2 < 1920 ∧ Q (V.str (toString i)) H) fStr := by
  intro fo ls H vs ds P Q ht r ⟨i, e, hz, h⟩ q
  subst e
  obtain ⟨v, rfl, rr⟩ := r.one
  exact ⟨i, by rw [rr.isInt], hz, q _ _ H h (Same.refl H) (.str _)⟩
def fSum (ds : List D) (Q : D → Prop) : Prop := ∃ ns : List Int, ds = [.list (ns.map .int)] ∧ Q (.int ns.sum)
theorem link_sum : LinkB X.K (rSum X.K) fSum := by
  intro fo ls H vs ds P Q ht r ⟨ns, e, h⟩ q
  subst e
  obtain ⟨v, rfl, rr⟩ := r.one
  obtain ⟨a, xs, rfl, h1, h2, h3⟩ := rr.list
  exact ⟨a, ns, rfl, by rw [← h3.of_ints]; exact .of h1, q _ _ H h (Same.refl H) (.int _)⟩
def fAll (ds : List D) (Q : D → Prop) : Prop := ∃ ns : List Bool, ds = [.list (ns.map .bool)] ∧ Q (.bool (ns.all id))
theorem link_all : LinkB X.K (rAll X.K) fAll := by
  intro fo ls H vs ds P Q ht r ⟨ns, e, h⟩ q
  subst e
  obtain ⟨v, rfl, rr⟩ := r.one
  obtain ⟨a, xs, rfl, h1, h2, h3⟩ := rr.list
  exact ⟨a, ns, rfl, by rw [← h3.of_bools]; exact .of h1, q _ _ H h (Same.refl H) (.bool _)⟩
def fAny (ds : List D) (Q : D → Prop) : Prop := ∃ ns : List Bool, ds = [.list (ns.map .bool)] ∧ Q (.bool (ns.any id))
theorem link_any : LinkB X.K (rAny X.K) fAny := by
  intro fo ls H vs ds P Q ht r ⟨ns, e, h⟩ q
  subst e
  obtain ⟨v, rfl, rr⟩ := r.one
  obtain ⟨a, xs, rfl, h1, h2, h3⟩ := rr.list
  exact ⟨a, ns, rfl, by rw [← h3.of_bools]; exact .of h1, q _ _ H h (Same.refl H) (.bool _)⟩
/-- max, min of a list of ints -/
def fMaxL (ds : List D) (Q : D → Prop) : Prop := ∃ ns : List Int, ds = [.list (ns.map .int)] ∧ 0 < ns.length ∧ ∀ m, m ∈ ns → (∀ y, y ∈ ns → y ≤ m) → Q (.int m)
theorem link_maxL : LinkB X.K (rMax X.K) fMaxL := by
  intro fo ls H vs ds P Q ht r ⟨ns, e, h0, h⟩ q
  subst e
  obtain ⟨v, rfl, rr⟩ := r.one
  obtain ⟨a, xs, rfl, h1, h2, h3⟩ := rr.list
  exact ⟨a, ns, rfl, by rw [← h3.of_ints]; exact .of h1, h0, fun m hm hy => q _ _ H (h m hm hy) (Same.refl H) (.int _)⟩
def fMinL (ds : List D) (Q : D → Prop) : Prop := ∃ ns : List Int, ds = [.list (ns.map .int)] ∧ 0 < ns.length ∧ ∀ m, m ∈ ns → (∀ y, y ∈ ns → m ≤ y) → Q (.int m)
theorem link_minL : LinkB X.K (rMin X.K) fMinL := by
  intro fo ls H vs ds P Q ht r ⟨ns, e, h0, h⟩ q
  subst e
  obtain ⟨v, rfl, rr⟩ := r.one
  obtain ⟨a, xs, rfl, h1, h2, h3⟩ := rr.list
  exact ⟨a, ns, rfl, by rw [← h3.of_ints]; exact .of h1, h0, fun m hm hy => q _ _ H (h m hm hy) (Same.refl H) (.int _)⟩
/-- tuple(xs), list(xs) -/
def fTuple (ds : List D) (Q : D → Prop) : Prop := match ds with
  | [.list xs] => Q (.tup xs)
  | [.tup xs] => Q (.tup xs)
  | _ => False
theorem link_tuple : LinkB X.K (fun xs H Q => ∃ p ys, xs = [V.ref p] ∧ ((SqL X.K H p ys ∧ ∀ l, H l = none → Q (V.ref l) (upd H l (.tup ys))) ∨ (SqT X.K H p ys ∧ Q (.ref p) H))) fTuple := by
  intro fo ls H vs ds P Q ht r h q
  unfold fTuple at h
  split at h
  · obtain ⟨v, rfl, rr⟩ := r.one
    obtain ⟨a, xs, rfl, h1, h2, h3⟩ := rr.list
    exact ⟨a, xs, rfl, .inl ⟨.of h1, fun l hl => q _ _ _ h (same_upd hl) (new_tup ht hl h2 h3)⟩⟩
  · obtain ⟨v, rfl, rr⟩ := r.one
    obtain ⟨a, xs, e, h1, h2, h3⟩ := rr.tup
    subst e
    cases rr with
    | cl r => exact ⟨a, xs, rfl, .inr ⟨h1, q _ _ H h (Same.refl H) r⟩⟩
  · exact h.elim
def fList (ds : List D) (Q : D → Prop) : Prop := match ds with
  | [.list xs] => Q (.list xs)
  | [.tup xs] => Q (.list xs)
  | _ => False
theorem link_list : LinkF X.K (fun xs H Q => ∃ p ys, xs = [V.ref p] ∧ (SqL X.K H p ys ∨ SqT X.K H p ys) ∧ ∀ l, H l = none → Q (V.ref l) (upd H l (.lst ys))) fList := by
  intro fo ls H vs ds P Q ht r h q
  unfold fList at h
  split at h
  · obtain ⟨v, rfl, rr⟩ := r.one
    obtain ⟨a, xs, rfl, h1, h2, h3⟩ := rr.list
    exact ⟨a, xs, rfl, .inl (.of h1), fun l hl => q _ _ _ h hl (same_upd hl) (.l upd_same h2 (h3.mono (sub_fresh hl (same_upd hl))))⟩
  · obtain ⟨v, rfl, rr⟩ := r.one
    obtain ⟨a, xs, rfl, h1, h2, h3⟩ := rr.tup
    exact ⟨a, xs, rfl, .inr h1, fun l hl => q _ _ _ h hl (same_upd hl) (.l upd_same h2 (h3.mono (sub_fresh hl (same_upd hl))))⟩
  · exact h.elim
end
end DL

set_option Elab.async false
set_option linter.all false
set_option maxRecDepth 100000
set_option maxHeartbeats 4000000
/-! DL7: in, repr, isinstance, join, sorted, slices; the dice; a list's items stored. -/
namespace DL
open PySem PySem.Spec PyProof.Rows L2
variable [TabsC]

theorem bt_len : bootBuiltins "len" = some (.builtin "len") := by decide +kernel
theorem bt_abs : bootBuiltins "abs" = some (.builtin "abs") := by decide +kernel
theorem bt_max : bootBuiltins "max" = some (.builtin "max") := by decide +kernel
theorem bt_min : bootBuiltins "min" = some (.builtin "min") := by decide +kernel
theorem bt_sum : bootBuiltins "sum" = some (.builtin "sum") := by decide +kernel
theorem bt_all : bootBuiltins "all" = some (.builtin "all") := by decide +kernel
theorem bt_any : bootBuiltins "any" = some (.builtin "any") := by decide +kernel
theorem bt_repr : bootBuiltins "repr" = some (.builtin "repr") := by decide +kernel
theorem bt_isinstance : bootBuiltins "isinstance" = some (.builtin "isinstance") := by decide +kernel
theorem bt_sorted : bootBuiltins "sorted" = some (.builtin "sorted") := by decide +kernel
theorem bt_int : bootBuiltins "int" = some (.type "int") := by decide +kernel
theorem bt_str : bootBuiltins "str" = some (.type "str") := by decide +kernel
theorem bt_bool : bootBuiltins "bool" = some (.type "bool") := by decide +kernel
theorem bt_tuple : bootBuiltins "tuple" = some (.type "tuple") := by decide +kernel
theorem bt_list : bootBuiltins "list" = some (.type "list") := by decide +kernel
theorem bt_dict : bootBuiltins "dict" = some (.type "dict") := by decide +kernel
theorem bt_set : bootBuiltins "set" = some (.type "set") := by decide +kernel

section
variable {X : Cx} {W : WX} {a b c e o : Expr} {es : List Expr} {ba bb : Bool} {ma mb : TM} {la : LM} {pos p : Pos} {x : Str}

/-! ### in -/
def rInX (K : PySem.W.Frag) (neg : Bool) : R2 := fun x y H Q => (∃ (c : Nat) (z : Str), x = .str ⟨#[c]⟩ ∧ y = .str z ∧ Q (.bl (neg ^^ decide (c ∈ z.cps.toList))) H) ∨ ((∃ d ds, Dp K H x d ∧ Dp K H y (.list ds) ∧ SeqAt.shaped d = true ∧ SeqAt.shaped (.list ds) = true ∧ Q (.bl (neg ^^ ds.any fun z => PyData.eqv z d)) H) ∨
  ∃ p xs, y = .ref p ∧ (SqL K H p xs ∨ SqT K H p xs) ∧ flatV x = true ∧ xs.all flatV = true ∧ Q (.bl (neg ^^ inV x xs)) H)
theorem op_inX (hu : X.A.units + 65 < cLine) : OpR X (compareOp .In) (rInX X.K false) := by
  intro pins s σ H x y v u Q I rx ry h
  rcases h with ⟨c, z, h1, h2, q⟩ | ⟨d, ds, h1, h2, h3, h4, q⟩ | ⟨p, xs, h1, h2, h3, h4, q⟩
  · exact op_in_sign pins s σ H x y v u Q I rx ry ⟨c, z, h1, h2, by simpa using q⟩
  · exact op_inD hu pins s σ H x y v u Q I rx ry ⟨d, ds, h1, h2, h3, h4, by simpa using q⟩
  · exact op_in_seq pins s σ H x y v u Q I rx ry ⟨p, xs, h1, h2, h3, h4, by simpa using q⟩
theorem op_notInX (hu : X.A.units + 65 < cLine) : OpR X (compareOp .NotIn) (rInX X.K true) := by
  intro pins s σ H x y v u Q I rx ry h
  rcases h with ⟨c, z, h1, h2, q⟩ | ⟨d, ds, h1, h2, h3, h4, q⟩ | ⟨p, xs, h1, h2, h3, h4, q⟩
  · exact op_notIn_sign pins s σ H x y v u Q I rx ry ⟨c, z, h1, h2, by simpa using q⟩
  · exact op_notInD hu pins s σ H x y v u Q I rx ry ⟨d, ds, h1, h2, h3, h4, by simpa using q⟩
  · exact op_notIn_seq pins s σ H x y v u Q I rx ry ⟨p, xs, h1, h2, h3, h4, by simpa using q⟩
def fInX (neg : Bool) (x y : D) (Q : Bool → Prop) : Prop := match y with
  | .str z => ∃ c, x = .str ⟨#[c]⟩ ∧ Q (neg ^^ decide (c ∈ z.cps.toList))
  | .list ds => x.fine = true ∧ (D.list ds).fine = true ∧ Q (neg ^^ inD x ds)
  | .tup ds => ∃ (i : Int) (ns : List Int), x = .int i ∧ ds = ns.map .int ∧ Q (neg ^^ decide (i ∈ ns))
  | _ => False
theorem inV_cons (x y : V) (xs : List V) : inV x (y :: xs) = (eqV y x || inV x xs) := by unfold inV; rw [List.any_cons]
theorem inV_ints (i : Int) : ∀ ns : List Int, inV (.int i) (ns.map V.int) = decide (i ∈ ns)
  | [] => by simp [inV]
  | n :: ns => by
    rw [List.map_cons, inV_cons, inV_ints i ns, show eqV (.int n) (.int i) = (n == i) from rfl]
    by_cases e : n = i
    · simp [e]
    · have e' : ¬ i = n := fun z => e z.symm
      simp [e, e']
theorem flat_ints : ∀ ns : List Int, (ns.map V.int).all flatV = true
  | [] => rfl
  | n :: ns => by simp only [List.map_cons, List.all_cons, flat_ints ns]; rfl
theorem link_inX {neg : Bool} : LinkCmp X.K (rInX X.K neg) (fInX neg) := by
  intro fo ls H x y dx dy P Q rx ry h q
  unfold fInX at h
  split at h
  · obtain ⟨c, e, h⟩ := h
    subst e
    exact .inl ⟨c, _, rx.isStr, ry.isStr, q _ h⟩
  · obtain ⟨h1, h2, h⟩ := h
    rename_i ds
    refine .inr (.inl ⟨_, D.pys ds, rx.dpf h1, ?_, (fine_and h1).2, ?_, ?_⟩)
    · have := ry.dpf h2
      simpa only [D.py] using this
    · have := (fine_and h2).2
      simpa only [D.py] using this
    · rw [pys_any]
      exact q _ h
  · obtain ⟨i, ns, e1, e2, h⟩ := h
    subst e1 e2
    obtain ⟨a, xs, rfl, h1, h2, h3⟩ := ry.tup
    rw [h3.of_ints] at h1
    refine .inr (.inr ⟨a, _, rfl, .inr h1, by rw [rx.isInt]; rfl, flat_ints ns, ?_⟩)
    rw [rx.isInt, inV_ints]
    exact q _ h
  · exact h.elim

/-! ### repr -/
def fRepr (ds : List D) (Q : D → Prop) : Prop := ∃ d, ds = [d] ∧ d.isPy = true ∧ d.py.showable = true ∧ d.py.depth ≤ 60 ∧ d.py.shown.length ≤ sizeLine ∧ Q (.str d.py.shown)
def rRepr (K : PySem.W.Frag) : List V → Hp → VK → Prop := fun xs H Q => ∃ x d, xs = [x] ∧ Rep K H x d ∧ d.isPy = true ∧ d.py.showable = true ∧ d.py.depth ≤ 60 ∧ d.py.shown.length ≤ sizeLine ∧ Q (.str d.py.shown) H
theorem call_reprD (hG : GdOk X.A X.base) (hu : X.A.units + 64 < cLine) : CallR X (.builtin "repr") (rRepr X.K) := by
  intro pins s σ H xs us Q I r h
  obtain ⟨x, d, rfl, hd, hpy, h1, h3, h4, q⟩ := h
  obtain ⟨u, rfl, ru⟩ := vals1 r
  obtain ⟨as, rd, nm⟩ := Rep.reads I hG.2 hd ru hpy
  have byref : ∀ a, u = .ref a → wpAny (model X.prog X.w) X.A (call (.builtin "repr") [u]) (EP X pins σ Q) X.xe s := fun a e => by
    subst e
    exact repr_of_reads' rd h1 (fun _ => nm) hG.1 (by omega) (fun _ _ z => z) (fun h' t tk hk => ⟨.str d.py.shown, H, I.kept (t' := tk) hk, ⟨_, rfl⟩, q⟩) h4
  cases hd with
  | non =>
    cases ru
    exact PySem.P.repr_of_none ⟨.str _, H, I.tok _, ⟨_, rfl⟩, by simpa only [D.py, PyData.shown] using q⟩
  | bool b =>
    cases ru
    exact PySem.P.repr_of_bool ⟨.str _, H, I.tok _, ⟨_, rfl⟩, by simpa only [D.py, PyData.shown] using q⟩
  | int i =>
    obtain ⟨t, rfl⟩ := ru
    exact PySem.P.repr_of_int (by simpa [D.py, PyData.showable] using h1) ⟨.str _, H, I.tok _, ⟨_, rfl⟩, by simpa only [D.py, PyData.shown] using q⟩
  | str z =>
    obtain ⟨t, rfl⟩ := ru
    exact PySem.P.repr_of_str ⟨.str _, H, I.tok _, ⟨_, rfl⟩, by simpa only [D.py, PyData.shown] using q⟩ (by simpa only [D.py, PyData.shown] using h4)
  | list _ _ _ => exact byref _ ru
  | tup _ _ _ => exact byref _ ru
  | dict _ _ _ => exact byref _ ru
  | obj _ _ _ => simp [D.isPy] at hpy
  | dice _ => simp [D.isPy] at hpy
  | script _ _ => simp [D.isPy] at hpy
  | opq _ => simp [D.isPy] at hpy
  | ty _ => simp [D.isPy] at hpy
  | fn _ => simp [D.isPy] at hpy
  | exc _ _ _ => simp [D.isPy] at hpy
/-- .. of what is no dict of our own that may still be written -/
def fReprN (ds : List D) (Q : D → Prop) : Prop := fRepr ds Q ∧ ∀ d, ds = [d] → isDic d = false
theorem link_repr : LinkB X.K (rRepr X.K) fReprN := by
  intro fo ls H vs ds P Q ht r ⟨⟨d, e, h1, h2, h4, h5, h⟩, nd⟩ q
  subst e
  obtain ⟨v, rfl, rr⟩ := r.one
  exact ⟨v, d, rfl, rr.rep (nd d rfl), h1, h2, h4, h5, q _ _ H h (Same.refl H) (.str _)⟩
/-- repr of what is plain -/
def mRepr (ma : TM) : TM := fun δ Q E => ma δ (fun d => fRepr [d] Q) E
theorem de_repr {x : Str} (hG : GdOk X.A X.base) (hu : X.A.units + 64 < cLine) (hg : Gl X x) (hm : X.mg x = none) (hv : bootBuiltins x = some (.builtin "repr")) (ha : DE X W a false ma) (hn : x ≠ "__name__" := by decide) (hdb : (x == ("__debug__" : Str)) = false := by decide)
    (he : starEach [a] X.env = (false, eval a X.env) :: starEach [] X.env := by rfl) : DE X W (.Call (.Name x p) [a] [] pos) false (mRepr ma) :=
  PE.imp (pe_callB (call_reprD hG hu) hg hm hv (pa_cons ha pa_nil he) hn hdb he rfl) fun σ H Q ⟨F, own, δ, P, EK, A, m, q⟩ => ⟨F, own, δ, _, EK, A, m, fun d v H1 m1 s1 r1 => by
    obtain ⟨d', e, h1, h2, h4, h5, h⟩ := m1
    cases e
    exact ⟨v, d, rfl, r1.clean.mono sub_le, h1, h2, h4, h5, q _ _ H1 h s1 (.cl (.str _))⟩⟩

/-! ### isinstance -/
def D.tyn : D → Option String
  | .none => some "NoneType"
  | .bool _ => some "bool"
  | .int _ => some "int"
  | .str _ => some "str"
  | .list _ => some "list"
  | .tup _ => some "tuple"
  | .dict _ => some "dict"
  | _ => Option.none
def fIsi (ds : List D) (Q : D → Prop) : Prop := ∃ d n t r, ds = [d, .ty n] ∧ d.tyn = some t ∧ kitB t n = some r ∧ Q (.bool r)
theorem tyx_of {K : PySem.W.Frag} {H : Hp} {v : V} {d : D} {t : String} (r : Rep K H v d) (h : d.tyn = some t) : TyX K H v (.type t) := by
  cases r with
  | non => cases h; exact .base .non
  | bool b => cases h; exact .base (.bl b)
  | int i => cases h; exact .base (.int i)
  | str x => cases h; exact .base (.str x)
  | list h1 _ _ => cases h; exact .base (.lst h1)
  | tup h1 _ _ =>
    cases h
    rcases h1 with (h1 | ⟨o, h1⟩) | ⟨o, its, n, h1, h2, _⟩
    · exact .base (.tup h1)
    · exact .fTuple h1
    · exact .kTuple h1 h2
  | dict h1 _ _ =>
    cases h
    exact .fDict h1
  | dice _ => cases h
  | obj _ _ _ => cases h
  | script _ _ => cases h
  | opq _ => cases h
  | ty _ => cases h
  | fn _ => cases h
  | exc _ _ _ => cases h
theorem tyx_rv {K : PySem.W.Frag} {fo ls : List Addr} {H : Hp} {b : Bool} {v : V} {d : D} {t : String} (r : RV K fo ls H b v d) (h : d.tyn = some t) : TyX K H v (.type t) := by
  cases r with
  | cl r => exact tyx_of (r.mono sub_le) h
  | ml n a b c => cases h; exact .base (.lst a)
  | md n a b c => cases h; exact .base (.dK a)
  | mo n a b c => cases h
theorem link_isi : LinkB X.K (rIsi X.K) fIsi := by
  intro fo ls H vs ds P Q ht r ⟨d, n, t, b, e, h1, h2, h⟩ q
  subst e
  obtain ⟨v, v', rfl, r1, r2⟩ := r.two
  cases r2 with
  | cl r2 =>
    cases r2
    exact ⟨v, _, _, _, b, rfl, .ty n, tyx_rv r1 h1, kit_ty h2, q _ _ H h (Same.refl H) (.bool _)⟩
theorem de_ty {n : String} {x : Str} (hg : Gl X x) (hm : X.mg x = none) (hv : bootBuiltins x = some (.type n)) (hn : x ≠ "__name__" := by decide) (hd : (x == ("__debug__" : Str)) = false := by decide) : DE X W (.Name x pos) false (mC (.ty n)) :=
  de_const (pe_bltn hg hm hv (show RelV (.ty n) (.type n) from rfl) hn hd) fun _ => .ty n

/-! ### texts -/
def mJoin (ma mb : TM) : TM := fun δ Q E => ma δ (fun d => ∃ z, d = .str z ∧ mb δ (fun d' => ∃ ys : List Str, (d' = .list (ys.map .str) ∨ d' = .tup (ys.map .str)) ∧ (ys.map (·.length)).sum + ys.length * z.length ≤ 16777216 ∧ Q (.str (Txt.join z ys))) E) E
theorem de_join {apos : Pos} (ho : DE X W o ba ma) (he : DE X W e bb mb) (hs : starEach [e] X.env = [(false, eval e X.env)] := by rfl) (hbase : attributeBase o "join" X.env (eval o X.env) = eval o X.env := by rfl) (hline : (apos.endLine == pos.line) = true := by rfl) :
    DE X W (.Call (.Attribute o "join" apos) [e] [] pos) false (mJoin ma mb) :=
  PE.imp (pe_join ho he hs hbase hline) fun σ H Q ⟨F, own, δ, P, EK, A, m, q⟩ => ⟨F, own, δ, _, EK, A, m, fun d v H1 p1 s1 r1 => by
    obtain ⟨z, rfl, p1⟩ := p1
    refine ⟨⟨z, r1.isStr⟩, F, own, δ, _, EK, A.on s1, p1, fun d' v' H2 p2 s2 r2 => ?_⟩
    obtain ⟨ys, h, hz, p2⟩ := p2
    rcases h with rfl | rfl
    · obtain ⟨a, xs, rfl, h1, h2, h3⟩ := r2.list
      exact ⟨z, a, ys, r1.isStr, rfl, .inl (by rw [← h3.of_strs]; exact .of h1), hz, q _ _ H2 p2 (s1.trans s2) (.cl (.str _))⟩
    · obtain ⟨a, xs, rfl, h1, h2, h3⟩ := r2.tup
      exact ⟨z, a, ys, r1.isStr, rfl, .inr (by rw [← h3.of_strs]; exact h1), hz, q _ _ H2 p2 (s1.trans s2) (.cl (.str _))⟩⟩

/-! ### sorted, of ints -/
def fSortI (ds : List D) (Q : D → Prop) : Prop := ∃ ns : List Int, ds = [.list (ns.map .int)] ∧ ∀ ms : List Int, ms.Perm ns → ms.Pairwise (· ≤ ·) → Q (.list (ms.map .int))
theorem link_sortI : LinkF X.K (rSortedI X.K) fSortI := by
  intro fo ls H vs ds P Q ht r ⟨ns, e, h⟩ q
  subst e
  obtain ⟨v, rfl, rr⟩ := r.one
  obtain ⟨a, xs, rfl, h1, h2, h3⟩ := rr.list
  have ex := h3.of_ints
  subst ex
  refine ⟨a, ns, rfl, .of h1, fun ms p hp hs hn => q _ _ _ (h ms hp hs) hn (same_upd hn) (.l upd_same ?_ (Reps.ints ms))⟩
  rw [List.length_map] at h2 ⊢
  rw [hp.length_eq]
  exact h2

/-! ### the dice -/
def mDice (ma : TM) : TM := fun δ Q E => ma δ (fun d => (∃ i j k : Int, d = .list [.int i, .int j, .int k]) ∧ Q .dice) E
theorem de_dice (h : DF X W e ma) : DE X W e false (mDice ma) := by
  refine ⟨fun pins s σ H Q I ⟨F, own, δ, P, EK, A, m, q⟩ => ?_⟩
  refine thn (h.run pins s σ H (fun v H1 => ∃ p i j k, v = .ref p ∧ H p = none ∧ Same H H1 ∧ H1 p = some (.lst [.int i, .int j, .int k]) ∧ P .dice) I ⟨F, own, δ, _, EK, A, m, fun d p H1 ⟨⟨i, j, k, ed⟩, pd⟩ hp s1 r1 => ?_⟩) fun u s1 ⟨v, H1, I1, rv, p, i, j, k, ev, hp, s01, h1, pd⟩ => ?_
  · subst ed
    cases r1 with
    | l h1 _ r1 =>
      have := Reps.of_ints (ns := [i, j, k]) r1
      subst this
      exact ⟨p, i, j, k, rfl, hp, s1, h1, pd⟩
  · subst ev
    obtain ⟨_, its, n, r, e⟩ := I1.hok p _ h1
    obtain ⟨t1, t2, t3, rfl⟩ : ∃ t1 t2 t3, its = [.int i t1, .int j t2, .int k t3] := by
      cases r with
      | cons a r => cases r with
        | cons b r => cases r with
          | cons c r =>
            cases r
            obtain ⟨t1, rfl⟩ := a
            obtain ⟨t2, rfl⟩ := b
            obtain ⟨t3, rfl⟩ := c
            exact ⟨t1, t2, t3, rfl⟩
    have J := Inv.retrack (o := diceO p) I1 (by rw [h1]; trivial) ⟨⟨i, j, k, t1, t2, t3, n, e⟩, ⟨_, e⟩, fun h1 h2 ⟨i, j, k, t, u, w, n, z⟩ f => ⟨i, j, k, t, u, w, n, f _ z⟩⟩
    have sn : Same H (upd H1 p (diceO p)) := Same.put s01 hp h1
    refine ⟨.ref p, _, J, rv, q .dice (.ref p) _ pd sn (.cl (.dice ?_))⟩
    rw [sub_out (new_out A hp)]
    exact upd_same
/-- within the roll: the dice as a list -/
theorem pss_dice {sts : List Stmt} {t : TS} (h : PSs X sts t) : PSs X sts (fun D σ H => ∃ q, H q = some (diceO q) ∧ ∀ i j k : Int, t { nx := fun _ _ => False, rt := fun v H' => ∃ i j k : Int, H' q = some (.lst [.int i, .int j, .int k]) ∧ D.rt v (upd H' q (diceO q)) } σ (upd H q (.lst [.int i, .int j, .int k]))) := by
  refine ⟨fun pins s σ H D I ⟨q, hq, ht⟩ => ?_⟩
  obtain ⟨⟨i, j, k, t1, t2, t3, n, e⟩, _, _⟩ := I.hok q _ hq
  have J : Inv X pins σ (upd H q (.lst [.int i, .int j, .int k])) s := Inv.retrack I (by rw [hq]; trivial) ⟨(by show 3 ≤ sizeLine; rw [sizeLine_eq]; decide), [.int i t1, .int j t2, .int k t3], n, .cons ⟨_, rfl⟩ (.cons ⟨_, rfl⟩ (.cons ⟨_, rfl⟩ .nil)), e⟩
  refine thn (h.run pins s σ _ _ J (ht i j k)) fun fl s1 hs => ?_
  cases fl with
  | next =>
    obtain ⟨_, _, _, z⟩ := hs
    exact z.elim
  | brk =>
    obtain ⟨_, _, _, z⟩ := hs
    exact z.elim
  | cont =>
    obtain ⟨_, _, _, z⟩ := hs
    exact z.elim
  | ret u =>
    obtain ⟨v, σ', H', I', rv, i', j', k', hq', hd⟩ := hs
    obtain ⟨_, its, n', r, e'⟩ := I'.hok q _ hq'
    obtain ⟨u1, u2, u3, rfl⟩ : ∃ u1 u2 u3, its = [.int i' u1, .int j' u2, .int k' u3] := by
      cases r with
      | cons a r => cases r with
        | cons b r => cases r with
          | cons c r =>
            cases r
            obtain ⟨t1, rfl⟩ := a
            obtain ⟨t2, rfl⟩ := b
            obtain ⟨t3, rfl⟩ := c
            exact ⟨t1, t2, t3, rfl⟩
    have J' := Inv.retrack (o := diceO q) I' (by rw [hq']; trivial) ⟨⟨i', j', k', u1, u2, u3, n', e'⟩, ⟨_, e'⟩, fun h1 h2 ⟨i, j, k, t, u, w, n, z⟩ f => ⟨i, j, k, t, u, w, n, f _ z⟩⟩
    exact ⟨v, σ', _, J', rv, hd⟩
def mRoll : FM := fun ds Q _ => ∃ n : Int, ds = [.dice, .int n] ∧ 0 < n ∧ n < 1073741824 ∧ ∀ r : Int, 0 ≤ r → r < n → Q (.int r)
end
end DL

set_option Elab.async false
set_option linter.all false
set_option maxRecDepth 100000
set_option maxHeartbeats 4000000
/-! DL8: the end of a law. -/
namespace DL
open PySem PySem.Spec PyProof.Rows L2
variable [TabsC]

/-- the law's script as data; the law gives True -/
def LawTrue (m : FM) : Prop := ∀ ns : List Int, ns.length ≤ 63 → m [.script ns] (fun d => d = .bool true) NoE
section
variable {P : Program} {w : World} {K : PySem.W.Frag} {mg mb : Str → Option Value} {k : Nat} {fa a : Addr} {m : FM} {s1 : Shared} {vs : List Value} {ns : List Int}
/-- the call, over an abstract heap H that tracks nothing but the script -/
theorem law_core (KX : K.In s1.heap) (hns : s1.heap.Ns mainGlobals mg) (hb : s1.heap.Ns builtinsNs mb) (hbb : ∀ x : Str, x ≠ "__name__" → mb x = bootBuiltins x) (hlim : s1.heap.NoLimit) (hg : s1.gens = #[]) (hT : TabsC.T = []) (hSM : ∃ mm, s1.heap.Ns sysModules mm)
    (ha : s1.heap.get? a = some { cls := .type "list", data := .seq vs.toArray }) (hr : Room k callerA) (F : ∀ base : Heap, K.In base → base.Ns mainGlobals mg → FnD P w K mg base k fa m)
    (hm : LawTrue m) (hl : ns.length ≤ 63) (H : Hp) (hO : Only H) (hS : SqL K H a (ns.map V.int)) (hok : HOk P w H s1.heap) (hA : ∀ b, H b ≠ none → b = a) (hK : H a ≠ none → K.lookup a = none) :
    codeAny (model P w) callerA (.call (.ref fa) ⟨[.ref a], []⟩) (fun r s' => r = .ok (.ret (.bool true)) ∧ OldK s1.heap s'.heap ∧ s'.os = s1.os ∧ AllBare s'.gens) s1 := by
  have out : ∀ {b : Addr}, (b ≠ a ∨ H b = none) → H b = none := fun {b} h => by
    cases q : H b with
    | none => rfl
    | some u =>
      have e : b = a := hA b (by rw [q]; simp)
      rcases h with h | h
      · exact absurd e h
      · rw [q] at h; cases h
  have dictK : ∀ {b : Addr} {mm : Str → Option Value}, s1.heap.Ns b mm → (hidT s1.heap H).Ns b mm := fun {b mm} hN => by
    obtain ⟨o, es, ep, e, d, r⟩ := hN
    refine ⟨o, es, ep, hidT_get e (out (.inl fun z => ?_)), d, r⟩
    rw [z, ha] at e
    cases e
    cases d
  have hKb : K.In (hidT s1.heap H) := fun b o e => hidT_get (KX b o e) (by
    cases q : H b with
    | none => rfl
    | some u =>
      have ea : b = a := hA b (by rw [q]; simp)
      rw [ea] at e q
      rw [hK (by rw [q]; simp)] at e
      cases e)
  obtain ⟨mc, l1, l2⟩ := hlim
  have env : Env0 P w K mg (hidT s1.heap H) callerA [] s1 H :=
    ⟨rfl, ⟨hKb, dictK hns, ⟨mb, dictK hb, hbb⟩, mc, dictK l1, l2⟩, fun b o e => of_hidT e, Nat.le_of_eq (hidT_size _ _), trivial, fun b hb => absurd hb (by simp [frs]), hok, .of_eq hg⟩
  have sp : spD K m [.ref a] H (fun v _ => v = .bl true) (fun _ _ _ => False) :=
    ⟨[], [.script ns], _, NoE, fun l h => absurd h (by simp), by rw [hT]; exact fun p hp => absurd hp (by simp), .cons (.script (by rw [show sub H [] = H from funext fun b => if_neg (by simp)]; exact hS) (Nat.le_trans hl (by rw [sizeLine_eq]; decide))) .nil, hm ns hl, fun d v H' e _ r => by
      subst e
      cases r
      rfl, fun _ _ _ _ e => e.elim⟩
  refine codeAny_mono ((F _ hKb (dictK hns)) callerA [] s1 H [.ref a] [.ref a] _ _ ⟨rfl, let ⟨mm, hm⟩ := hSM; ⟨mm, dictK hm⟩⟩ hr env (.cons rfl .nil) sp) fun r s' h => ?_
  match r, h with
  | .error e, h =>
    obtain ⟨_, _, _, _, _, _, _, _, _, _, _, _, z⟩ := h
    exact z.elim
  | .ok (.ret u), h =>
    obtain ⟨v, H', hos, hbare, hun, hok', hrel, hv⟩ := h
    have ev : v = .bl true := hv
    rw [ev] at hrel
    have eu : u = Value.bool true := hrel
    rw [eu]
    refine ⟨rfl, OldK.of_keep fun b o e => ?_, hos, hbare⟩
    rcases hO b with z | ⟨ob, xs, z⟩
    · exact hun.keep b o e z (by simp [frs]) (by simp)
    · have g1 := (hok b _ z).1
      have g2 := (hok' b _ (hun.frzs b ob _ z)).1
      rw [e] at g1
      cases g1
      exact g2
theorem law_callD (KX : K.In s1.heap) (hns : s1.heap.Ns mainGlobals mg) (hb : s1.heap.Ns builtinsNs mb) (hbb : ∀ x : Str, x ≠ "__name__" → mb x = bootBuiltins x) (hlim : s1.heap.NoLimit) (hg : s1.gens = #[]) (hT : TabsC.T = []) (hSM : ∃ mm, s1.heap.Ns sysModules mm)
    (ha : s1.heap.get? a = some { cls := .type "list", data := .seq vs.toArray }) (hi : IntsAre vs ns) (hr : Room k callerA) (F : ∀ base : Heap, K.In base → base.Ns mainGlobals mg → FnD P w K mg base k fa m)
    (hm : LawTrue m) (hl : ns.length ≤ 63) :
    codeAny (model P w) callerA (.call (.ref fa) ⟨[.ref a], []⟩) (fun r s' => r = .ok (.ret (.bool true)) ∧ OldK s1.heap s'.heap ∧ s'.os = s1.os ∧ AllBare s'.gens) s1 := by
  have hz : ns.length ≤ sizeLine := Nat.le_trans hl (by rw [sizeLine_eq]; decide)
  cases hk : K.lookup a with
  | some o =>
    have e := KX a o hk
    rw [ha] at e
    cases e
    exact law_core KX hns hb hbb hlim hg hT hSM ha hr F hm hl (fun _ => none) (fun _ => .inl rfl) (.inr ⟨_, vs.toArray, _, hk, rfl, rfl, rfl, (by rw [List.size_toArray, hi.length]; exact hz), by simpa using vals_of_ints hi⟩) (fun b u z => nomatch z) (fun b z => absurd rfl z) fun z => absurd rfl z
  | none =>
    have at_a : (fun b : Addr => if b = a then some (HO.frz { cls := .type "list", data := .seq vs.toArray } (.lst (ns.map V.int))) else none) a = some (HO.frz { cls := .type "list", data := .seq vs.toArray } (.lst (ns.map V.int))) := if_pos rfl
    refine law_core KX hns hb hbb hlim hg hT hSM ha hr F hm hl (fun b => if b = a then some (HO.frz { cls := .type "list", data := .seq vs.toArray } (.lst (ns.map V.int))) else none) (fun b => ?_) (.inl (.inr ⟨_, at_a⟩)) (fun b u z => ?_) (fun b z => ?_) fun _ => hk
    · by_cases e : b = a
      · exact .inr ⟨_, _, if_pos e⟩
      · exact .inl (if_neg e)
    · by_cases e : b = a
      · have z := (if_pos e).symm.trans z
        cases z
        rw [e]
        exact ⟨ha, (by rw [List.length_map]; exact hz), vs, _, vals_of_ints hi, ha⟩
      · have z := (if_neg e).symm.trans z
        cases z
    · by_cases e : b = a
      · exact e
      · exact absurd (if_neg e) z
end
/-- the goal that the head leaves -/
theorem walkD {l : PySem.W.OpenLaw} {k : Nat} {q : Program} {loose : List Str} {XP : (Str → Option Value) → Heap → Prop} {YP : World → Heap → Prop} {d : DefRec} {K : Params → PySem.W.Frag} {m : FM} (hT : TabsC.T = []) (hI : importsNone q = true) (hn : l.most = some 63) (hdf : d.params.defaults = []) (hr : Room k callerA)
    (hY : ∀ (w : World) (h : Heap), YP w h → (K w.params).In h) (hm : LawTrue m)
    (F : ∀ (w : World) (mg : Str → Option Value) (fa : Addr) (h : Heap), (K w.params).In h → h.Ns mainGlobals mg → mg d.name = some (.ref fa) →
      ∀ base : Heap, (K w.params).In base → base.Ns mainGlobals mg → FnD l.prog w (K w.params) mg base k fa m) :
    PySem.W.WalkO q loose XP YP l.row.toRowW d [] (fun f vs => PySem.call f vs) := by
  refine Att.attach_call hn hdf fun w s0 s1 mg mb fa o pm cd doc a vs ns G Y ho hd hcd hmg hobj hints hlen hg => ?_
  obtain ⟨mm, hmm, _⟩ := (G.T.seer hI).mods
  exact law_callD (hY w _ Y) G.T.g G.T.b G.T.builtins G.T.nolimit hg hT ⟨mm, hmm⟩ hobj hints hr (F w mg fa _ (hY w _ Y) G.T.g hmg) hm hlen
end DL

set_option Elab.async false
set_option linter.all false
set_option maxRecDepth 100000
set_option maxHeartbeats 4000000
/-! DL9: more forms: comprehensions stored, two names at once, displays of dicts, slices, zip, tuple(range). -/
namespace DL
open PySem PySem.Spec PyProof.Rows L2
variable [TabsC]

theorem units65 {A : Around} {k : Nat} (hr : Room k A) : A.units + 65 < cLine := by have := hr.un; omega
section
variable {X : Cx} {W : WX} {a b c e e2 o : Expr} {es : List Expr} {ba bb : Bool} {ma mb : TM} {la : LM} {pos p : Pos} {x y : Str} {k : Nat} {f : Addr} {fd : FuncData} {ps : List Str} {m : FM}

/-! ### name = [..] -/
/-- tf of lists alone -/
def tfl (K : PySem.W.Frag) (W : WX) (m : TM) : TE := fun σ H Q => ∃ (F : Fm) (own : List Addr) (δ : List DV) (P : D → Prop) (EK : Er → Prop), At K W σ H F own δ EK ∧ m δ P EK ∧
  ∀ ds p H', P (.list ds) → H p = none → Same H H' → FV K (p :: (F.ls0 ++ own)) H' p (.list ds) → Q (.ref p) H'
theorem tf.tfl {K : PySem.W.Frag} {W : WX} {m : TM} {σ : L2.St} {H : Hp} {Q : VK} (h : tf K W m σ H Q) : DL.tfl K W m σ H Q := by
  obtain ⟨F, ow, δ, P, EK, A, m, q⟩ := h
  exact ⟨F, ow, δ, P, EK, A, m, fun ds p H' => q (.list ds) p H'⟩
/-- the reading of a comprehension, for whatever follows it -/
theorem lc_reading {tg it : Expr} {own : List (Str × Nat)} {mi : LM} {g : GM} {mt : BM} {me : TM} {σ : L2.St} {H : Hp} {Q : VK} {K : PySem.W.Frag} (h : tfl K W (mComp (own.map (·.2)) mi g mt me) σ H Q) :
    tLc (ti K W ba mi) (tgw K (List.map (fun x : Str × Nat => x.2) own) g) (tb K NoW mt) (tm K NoW false me) (own.map (·.2)) σ H Q := by
  obtain ⟨F, ow, δ, P, EK, A, m, q⟩ := h
  refine ⟨F, ow, δ, _, EK, A, m, fun ds J H1 hds s1 ok => ?_⟩
  intro Dn hD
  have E1 := A.env.grow s1
  have nodn : ∀ (j : Nat) (dj : D), (wipeD δ (own.map (·.2)))[j]? = some (.m dj) → (L2.wipe σ (own.map (·.2)))[j]? ≠ some (some (.ref Dn)) := fun j dj h z => by
    obtain ⟨s, e1, a, e2, ha, _⟩ := (E1.wipe (own.map (·.2))).slot j _ h
    rw [e1] at z; cases z
    cases e2
    obtain ⟨o, q, nn⟩ := E1.trk Dn (List.mem_append_right _ ha)
    rw [hD] at q; cases q
  refine ⟨fun i n H => n = ds.length - i ∧ i ≤ ds.length ∧ Same H1 H ∧ EnvD K F (Dn :: ow) (L2.wipe σ (own.map (·.2))) (wipeD δ (own.map (·.2))) H ∧ ∃ xs acc, H Dn = some (.lst xs) ∧ xs.length ≤ i ∧ Reps K (sub H (F.ls0 ++ (Dn :: ow))) xs acc ∧ compL g mt me (wipeD δ (own.map (·.2))) (ds.drop i) acc P,
    ⟨_, rfl, Nat.zero_le _, same_upd hD, (E1.wipe _).grab hD (same_upd hD) ⟨_, upd_same, plain_of⟩, [], [], upd_same, Nat.le_refl _, .nil, hds⟩, ?_⟩
  rintro i n H2 ⟨rfl, hi2, s2, E2, xs, acc, hx, hl, rx, q2⟩
  have sg : Grow (flo ba H1 (F.ls0 ++ ow)) H2 := flo_le.trans s2.ob
  have sb : Grow (sub H1 (F.ls0 ++ ow)) (sub H2 (F.ls0 ++ (Dn :: ow))) := by
    rw [← sub_congr (H := H2) (mem_swap (ls := F.ls0) (own := ow) (p := Dn))]
    exact sub_fresh hD s2
  by_cases hlt : i < ds.length
  · refine .inr ⟨ok.go i H2 sg hlt, fun H' => Same H1 H' ∧ EnvD K F (Dn :: ow) (L2.wipe σ (own.map (·.2))) (wipeD δ (own.map (·.2))) H' ∧ ∃ xs acc, H' Dn = some (.lst xs) ∧ xs.length ≤ i + 1 ∧ Reps K (sub H' (F.ls0 ++ (Dn :: ow))) xs acc ∧ compL g mt me (wipeD δ (own.map (·.2))) (ds.drop (i + 1)) acc P,
      fun H' ⟨s', E', z⟩ => ⟨_, (by omega), rfl, hlt, s', E', z⟩, fun x H3 y => ?_⟩
    obtain ⟨d, ed, s3, r3⟩ := ok.yld i H2 x H3 (F.ls0 ++ (Dn :: ow)) sg sb E2.trk hlt y
    rw [drop_get ed] at q2
    have hz : xs.length < sizeLine := Nat.lt_of_le_of_lt hl (Nat.lt_of_lt_of_le hlt ok.sz)
    refine ⟨F, Dn :: ow, _, d, _, E2.grow s3, r3, q2, fun σ4 δ4 E4 w4 q4 => ⟨by rw [w4]; exact wipe_wipe, F, Dn :: ow, δ4, _, NoE, ⟨E4, noPass⟩, q4, fun b H5 p5 s5 => ?_⟩⟩
    cases b with
    | false =>
      have p5' : compL g mt me (wipeD δ (own.map (·.2))) (ds.drop (i + 1)) acc P := by simpa using p5
      exact iteF ⟨(s2.trans s3).trans s5, E2.grow (s3.trans s5), xs, acc, s5 _ _ (s3 _ _ hx), Nat.le_succ_of_le hl, rx.mono (sub_same (s3.trans s5)), p5'⟩
    | true =>
      refine iteT ⟨F, Dn :: ow, δ4, _, NoE, ⟨E4.grow s5, noPass⟩, (by simpa using p5), fun yd v H6 p6 s6 r6 => ?_⟩
      have hx6 := s6 _ _ (s5 _ _ (s3 _ _ hx))
      have es : sub (upd H6 Dn (.lst (xs ++ [v]))) (F.ls0 ++ (Dn :: ow)) = sub H6 (F.ls0 ++ (Dn :: ow)) := sub_upd (List.mem_append_right _ List.mem_cons_self)
      have sn : Same H1 (upd H6 Dn (.lst (xs ++ [v]))) := Same.put (((s2.trans s3).trans s5).trans s6) hD hx6
      refine ⟨xs, hx6, hz, sn, (E2.grow ((s3.trans s5).trans s6)).poke List.mem_cons_self hx6 nodn, xs ++ [v], acc ++ [yd], upd_same, ?_, ?_, p6⟩
      · rw [List.length_append, List.length_singleton]; omega
      · rw [es]
        exact (rx.mono (sub_same ((s3.trans s5).trans s6))).append (.cons r6.clean .nil)
  · have e : i = ds.length := by omega
    subst e
    rw [List.drop_length] at q2
    refine .inl ⟨ok.stop _ H2 sg rfl, q _ Dn H2 q2 (s1.free hD) (s1.trans s2) (.l hx (Nat.le_trans hl ok.sz) ?_)⟩
    rw [sub_congr (H := H2) (mem_swap (ls := F.ls0) (own := ow) (p := Dn))]
    exact rx
theorem ds_setLc (i : Nat) {elt tg it : Expr} {ifs : List Expr} {scope : Scope} {own : List (Str × Nat)} {mi : LM} {g : GM} {mt : BM} {me : TM} {py spos : Pos} (hc : X.calm = true) (hN : X.N.Nodup) (hi : DI X W tg it ba mi) (ok : BlkOk X.N X.env.scope scope own)
    (hg : ∀ (s : Shared) (H : Hp) (C : Addr) (cl : List (Str × Addr)) (fp : List Addr), DGw (X.blk s H scope (compEnvC scope cl C X.env) fp) (own.map (·.2)) tg g) (ht : ∀ (s : Shared) (H : Hp) (C : Addr) (cl : List (Str × Addr)) (fp : List Addr), DTs (X.blk s H scope (compEnvC scope cl C X.env) fp) NoW ifs mt)
    (he : ∀ (s : Shared) (H : Hp) (C : Addr) (cl : List (Str × Addr)) (fp : List Addr), DE (X.blk s H scope (compEnvC scope cl C X.env) fp) NoW elt false me) (hs : ∀ x, foldedSetIterable it X.env x = pure x := by intro _; rfl)
    (hy : X.N[i]? = some y := by rfl) (hyl : X.env.scope.names.lookup y = some .local := by rfl) (hsw : swapsWith (.ListComp elt [⟨tg, it, ifs, 0⟩] scope pos) (some (.Name y py)) spos.line X.env = pure true := by exact sw_true rfl rfl rfl (by decide +kernel)) :
    DS X W (.Assign [.Name y py] (.ListComp elt [⟨tg, it, ifs, 0⟩] scope pos) spos) (sSet i (mComp (own.map (·.2)) mi g mt me)) :=
  PS.imp (ps_setLc (g := tgw X.K (List.map (fun x : Str × Nat => x.2) own) g) (tt := tb X.K NoW mt) (te := tm X.K NoW false me) hc hN hy hyl hsw hi ok hg ht he hs) fun D σ H ⟨F, ow, δ, k, E, h, L⟩ =>
    lc_reading (tg := tg) (it := it) ⟨F, ow, δ, _, _, L.at E, h, fun d p H' pd hp s r => L.nx _ H' ow _ ((E.grow s).set i (r.clean (new_out (L.at E) hp) rfl)) pd⟩

/-! ### a, b = [], e -/
def sParM (i j : Nat) (ma mb : TM) : SM := fun δ k => ma δ (fun d => mb δ (fun e => k.nx ((δ.set i (.m d)).set j (.v e))) (k.er δ)) (k.er δ)
theorem ds_parm (i j : Nat) {px py pt : Pos} {kt k2 : Nat} {pt2 : Pos} (hc : X.calm = true) (hN : X.N.Nodup) (ha : DF X W a ma) (hb : DE X W b false mb) (hi : X.N[i]? = some x := by rfl) (hj : X.N[j]? = some y := by rfl) (hij : i ≠ j := by decide)
    (hx : X.env.scope.names.lookup x = some .local := by rfl) (hy : X.env.scope.names.lookup y = some .local := by rfl) (hs1 : starEach [a, b] X.env = (false, eval a X.env) :: starEach [b] X.env := by rfl) (hs2 : starEach [b] X.env = (false, eval b X.env) :: starEach [] X.env := by rfl)
    (hw : swappedStores [.Tuple [.Name x px, .Name y py] kt pt] (.Tuple [a, b] k2 pt2) X.env = pure (some [x, y]) := by rfl)
    (hs : swapsWithSole [.Tuple [.Name x px, .Name y py] kt pt] (.Tuple [a, b] k2 pt2) pos.line X.env = pure false := by rfl) : DS X W (.Assign [.Tuple [.Name x px, .Name y py] kt pt] (.Tuple [a, b] k2 pt2) pos) (sParM i j ma mb) :=
  PS.imp (ps_par hc hN hi hj hij hx hy (pa_cons ha (pa_cons hb pa_nil hs2) hs1) hw hs) fun D σ H ⟨F, own, δ, k, E, h, L⟩ => ⟨F, own, δ, _, _, L.at E, h, fun d q H1 p1 hq s1 r1 => by
    have E1 := E.setm i hq s1 r1
    -- the second one is reckoned while the new cell is ours and no name holds it
    have hn : ∃ o, H1 q = some o ∧ Plain o := by
      cases r1 with
      | l z _ _ => exact ⟨_, z, plain_of⟩
      | d z _ _ => exact ⟨_, z, plain_of⟩
      | o _ z _ => exact ⟨_, z, plain_of⟩
    have G := E.grab hq s1 hn
    refine ⟨F, q :: own, δ, _, _, L.at G, p1, fun d2 v2 H2 p2 s2 r2 => ⟨_, _, rfl, L.nx _ H2 (q :: own) _ ?_ p2⟩⟩
    exact (E1.grow s2).set j r2.clean⟩

/-! ### displays of dicts -/
def keyD : Key → D
  | .inl i => .int i
  | .inr x => .str x
def putD (kvs : List (Key × D)) (k : Key) (v : D) : List (Key × D) := if (kvs.any fun kv => decide (kv.1 = k)) = true then kvs.map (fun kv => if kv.1 = k then (kv.1, v) else kv) else kvs ++ [(k, v)]
def mergeD (kvs more : List (Key × D)) : List (Key × D) := more.foldl (fun acc kv => putD acc kv.1 kv.2) kvs
def valD (kvs : List (Key × D)) (k : Key) : Option D := (kvs.find? fun kv => decide (kv.1 = k)).map (·.2)
theorem RepKs.keys {K : PySem.W.Frag} {H : Hp} : ∀ {vs : List (Key × V)} {ds : List (Key × D)}, RepKs K H vs ds → vs.map (·.1) = ds.map (·.1)
  | _, _, .nil => rfl
  | _, _, .cons _ r => by simp only [List.map_cons, RepKs.keys r]
theorem RepKs.any {K : PySem.W.Frag} {H : Hp} (k : Key) : ∀ {vs : List (Key × V)} {ds : List (Key × D)}, RepKs K H vs ds → (vs.any fun kv => decide (kv.1 = k)) = (ds.any fun kv => decide (kv.1 = k))
  | _, _, .nil => rfl
  | _, _, .cons _ r => by simp only [List.any_cons, RepKs.any k r]
theorem RepKs.repl {K : PySem.W.Frag} {H : Hp} {k : Key} {v : V} {d : D} (rv : Rep K H v d) : ∀ {vs : List (Key × V)} {ds : List (Key × D)}, RepKs K H vs ds → RepKs K H (vs.map fun kv => if kv.1 = k then (kv.1, v) else kv) (ds.map fun kv => if kv.1 = k then (kv.1, d) else kv)
  | _, _, .nil => .nil
  | _, _, @RepKs.cons _ _ k' v' _ d' _ h r => by
    simp only [List.map_cons]
    by_cases e : k' = k
    · rw [if_pos e, if_pos e]
      exact .cons rv (RepKs.repl rv r)
    · rw [if_neg e, if_neg e]
      exact .cons h (RepKs.repl rv r)
theorem RepKs.append {K : PySem.W.Frag} {H : Hp} : ∀ {vs vs' : List (Key × V)} {ds ds' : List (Key × D)}, RepKs K H vs ds → RepKs K H vs' ds' → RepKs K H (vs ++ vs') (ds ++ ds')
  | _, _, _, _, .nil, s => s
  | _, _, _, _, .cons h r, s => .cons h (RepKs.append r s)
theorem RepKs.put {K : PySem.W.Frag} {H : Hp} {k : Key} {v : V} {d : D} {vs : List (Key × V)} {ds : List (Key × D)} (r : RepKs K H vs ds) (rv : Rep K H v d) : RepKs K H (putK vs k v) (putD ds k d) := by
  unfold putK putD
  rw [r.any k]
  split
  · exact r.repl rv
  · exact r.append (.cons rv .nil)
theorem RepKs.merge {K : PySem.W.Frag} {H : Hp} : ∀ {more : List (Key × V)} {mds : List (Key × D)} {vs : List (Key × V)} {ds : List (Key × D)}, RepKs K H more mds → RepKs K H vs ds → RepKs K H (mergeK vs more) (mergeD ds mds)
  | _, _, _, _, .nil, s => s
  | _, _, vs, ds, @RepKs.cons _ _ k v more d mds h r', s => show RepKs K H (mergeK (putK vs k v) more) (mergeD (putD ds k d) mds) from RepKs.merge r' (s.put h)
theorem RepKs.val {K : PySem.W.Frag} {H : Hp} (k : Key) : ∀ {vs : List (Key × V)} {ds : List (Key × D)} {d : D}, RepKs K H vs ds → valD ds k = some d → ∃ v, valV vs k = some v ∧ Rep K H v d
  | _, _, _, .nil, h => by cases h
  | _, _, d, @RepKs.cons _ _ k' v' vs d' ds h r, e => by
    by_cases q : k' = k
    · refine ⟨v', by rw [valV_pos q], ?_⟩
      have : valD ((k', d') :: ds) k = some d' := by simp [valD, List.find?_cons, q]
      rw [this] at e
      cases e
      exact h
    · have : valD ((k', d') :: ds) k = valD ds k := by simp [valD, List.find?_cons, q]
      rw [this] at e
      obtain ⟨v, h1, h2⟩ := RepKs.val k r e
      exact ⟨v, by rw [valV_neg q]; exact h1, h2⟩
theorem RepKs.none {K : PySem.W.Frag} {H : Hp} (k : Key) : ∀ {vs : List (Key × V)} {ds : List (Key × D)}, RepKs K H vs ds → valD ds k = Option.none → valV vs k = Option.none
  | _, _, .nil, _ => rfl
  | _, _, @RepKs.cons _ _ k' v' vs d' ds h r, e => by
    by_cases q : k' = k
    · have : valD ((k', d') :: ds) k = some d' := by simp [valD, List.find?_cons, q]
      rw [this] at e
      cases e
    · have : valD ((k', d') :: ds) k = valD ds k := by simp [valD, List.find?_cons, q]
      rw [this] at e
      rw [valV_neg q]
      exact RepKs.none k r e
def mPairs : List (TM × TM) → List DV → (List (D × D) → Prop) → (Er → Prop) → Prop
  | [], _, P, _ => P []
  | (mk, mv) :: r, δ, P, E => mk δ (fun x => mv δ (fun y => mPairs r δ (fun ps => P ((x, y) :: ps)) E) E) E
def mpNil : List (TM × TM) := []
def mpCons (mk mv : TM) (r : List (TM × TM)) : List (TM × TM) := (mk, mv) :: r
def trsOf (K : PySem.W.Frag) (W : WX) (ms : List (TM × TM)) : List (TE × TE) := ms.map fun q => (tm K W false q.1, tm K W false q.2)
def DPs (X : Cx) (W : WX) (pos : Pos) (keys : List (Option Expr)) (values : List Expr) (ms : List (TM × TM)) : Prop := PPs X pos keys values (trsOf X.K W ms)
theorem dps_nil : DPs X W pos [] [] mpNil := pps_nil
theorem dps_cons {kk v : Expr} {ks : List (Option Expr)} {vs : List Expr} {mk mv : TM} {ms : List (TM × TM)} (hk : DE X W kk false mk) (hv : DE X W v false mv) (hr : DPs X W pos ks vs ms) : DPs X W pos (some kk :: ks) (v :: vs) (mpCons mk mv ms) := pps_cons hk hv hr
inductive RepP (K : PySem.W.Frag) (H : Hp) : List (V × V) → List (D × D) → Prop
  | nil : RepP K H [] []
  | cons {x y : V} {d d' : D} {vs : List (V × V)} {ds : List (D × D)} : Rep K H x d → Rep K H y d' → RepP K H vs ds → RepP K H ((x, y) :: vs) ((d, d') :: ds)
theorem pairs_read {K : PySem.W.Frag} {F : Fm} {own : List Addr} {δ : List DV} {EK : Er → Prop} {σ : L2.St} : ∀ {ms : List (TM × TM)} {H : Hp} {P : List (D × D) → Prop} {Q : List (V × V) → Hp → Prop}, At K W σ H F own δ EK → mPairs ms δ P EK →
    (∀ ds vs H', P ds → Same H H' → RepP K (sub H' (F.ls0 ++ own)) vs ds → Q vs H') → tPairs (trsOf K W ms) σ H Q
  | [], H, P, Q, A, m, q => q [] [] H m (Same.refl H) .nil
  | (mk, mv) :: r, H, P, Q, A, m, q => ⟨F, own, δ, _, EK, A, m, fun x vx H1 m1 s1 r1 => ⟨F, own, δ, _, EK, A.on s1, m1, fun y vy H2 m2 s2 r2 =>
      pairs_read (ms := r) (A.on (s1.trans s2)) m2 fun ds vs H3 p3 s3 r3 => q _ _ H3 p3 ((s1.trans s2).trans s3) (.cons (r1.clean.mono (sub_same (s2.trans s3))) (r2.clean.mono (sub_same s3)) r3)⟩⟩
theorem RepP.split {K : PySem.W.Frag} {H : Hp} : ∀ {kvs : List (Key × D)} {vs : List (V × V)}, RepP K H vs (kvs.map fun kv => (keyD kv.1, kv.2)) → ∃ ws : List (Key × V), vs = ws.map (fun kv => (kV kv.1, kv.2)) ∧ RepKs K H ws kvs
  | [], _, r => by cases r; exact ⟨[], rfl, .nil⟩
  | (k, d) :: kvs, _, r => by
    cases r with
    | cons h1 h2 r =>
      obtain ⟨ws, rfl, rr⟩ := RepP.split r
      cases k with
      | inl i => cases h1; exact ⟨(Sum.inl i, _) :: ws, rfl, .cons h2 rr⟩
      | inr z => cases h1; exact ⟨(Sum.inr z, _) :: ws, rfl, .cons h2 rr⟩
def mDisp (ms : List (TM × TM)) : TM := fun δ Q E => mPairs ms δ (fun ps => ∃ kvs : List (Key × D), ps = kvs.map (fun kv => (keyD kv.1, kv.2)) ∧ kvs.length ≤ 15 ∧ Q (.dict (mergeD [] kvs))) E
theorem df_disp {keys : List (Option Expr)} {values : List Expr} {ms : List (TM × TM)} (h : DPs X W pos keys values ms) (hall : keys.all (·.isSome) = true) (hl : keys.length = values.length) (h0 : keys ≠ []) (h15 : keys.length ≤ 15) : DF X W (.Dict keys values pos) (mDisp ms) :=
  PE.imp (pe_disp h hall hl h0 h15) fun σ H Q ⟨F, own, δ, P, EK, A, m, q⟩ => by
    intro p hp
    have E1 := A.env.grab hp (same_upd (o := .dK []) hp) ⟨_, upd_same, plain_of⟩
    have A1 : At X.K W σ (upd H p (.dK [])) F (p :: own) δ EK := ⟨E1, fun er cls dd H' k s r => A.pass er cls dd H' k ((same_upd hp).trans s) (r.less fun b hb => (List.mem_append.mp hb).elim (fun z => List.mem_append_left _ z) fun z => List.mem_append_right _ (List.mem_cons_of_mem _ z))⟩
    refine pairs_read A1 m fun ds vs H2 m2 s2 r2 => ?_
    obtain ⟨kvs, rfl, hn, pd⟩ := m2
    obtain ⟨ws, rfl, rr⟩ := r2.split
    refine ⟨s2 _ _ upd_same, ws, rfl, by rw [rr.length]; exact hn, ?_⟩
    have sn : Same H (upd H2 p (.dK (mergeK [] ws))) := Same.put ((same_upd hp).trans s2) hp (s2 _ _ upd_same)
    have es : sub (upd H2 p (.dK (mergeK [] ws))) (p :: (F.ls0 ++ own)) = sub H2 (F.ls0 ++ (p :: own)) := by
      rw [sub_upd List.mem_cons_self]
      exact sub_congr mem_swap
    refine q _ p _ pd hp sn (.d upd_same ?_ ?_)
    · have h1 := length_mergeK ws []
      rw [List.length_nil] at h1
      rw [sizeLine_eq, ]
      have := rr.length
      omega
    · rw [es]
      exact RepKs.merge rr .nil
theorem df_dnew : DF X W (.Dict [] [] pos) (mC (.dict [])) := PE.imp pe_dnewK fun σ H Q ⟨F, own, δ, P, EK, A, m, q⟩ p hp => q _ p _ m hp (same_upd hp) (.d upd_same (Nat.zero_le _) .nil)

/-! ### slices -/
abbrev OM := List DV → (Option Int → Prop) → (Er → Prop) → Prop
def tpo (K : PySem.W.Frag) (W : WX) (mo : OM) : TO := fun σ H Q => ∃ (F : Fm) (own : List Addr) (δ : List DV) (P : Option Int → Prop) (EK : Er → Prop), At K W σ H F own δ EK ∧ mo δ P EK ∧ ∀ o H', P o → Same H H' → Q o H'
def DO (X : Cx) (W : WX) (e : Option Expr) (mo : OM) : Prop := PO X e (tpo X.K W mo)
theorem PO.imp {e : Option Expr} {t t' : TO} (h : PO X e t) (kk : ∀ σ H Q, t' σ H Q → t σ H Q) : PO X e t' := ⟨fun pins s σ H Q I q => h.run pins s σ H Q I (kk _ _ _ q)⟩
def mNoPart : OM := fun _ P _ => P none
def mPart (ma : TM) : OM := fun δ P E => ma δ (fun d => ∃ i, d = .int i ∧ P (some i)) E
theorem do_none : DO X W none mNoPart := PO.imp po_none fun σ H Q ⟨F, own, δ, P, EK, A, m, q⟩ => q none H m (Same.refl H)
theorem do_some (ha : DE X W a ba ma) : DO X W (some a) (mPart ma) := PO.imp (po_some ha) fun σ H Q ⟨F, own, δ, P, EK, A, m, q⟩ => ⟨F, own, δ, _, EK, A, m, fun d v H1 ⟨i, ed, pp⟩ s r => by
  subst ed
  exact ⟨i, r.isInt, q _ H1 pp s⟩⟩
def cutL {α : Type} (xs : List α) (lo hi : Option Int) : List α := (xs.drop (HT.sIx xs.length 0 lo)).take (HT.sIx xs.length xs.length hi - HT.sIx xs.length 0 lo)
def fSlice (d : D) (lo hi : Option Int) (Q : D → Prop) : Prop := match d with
  | .list xs => Q (.list (cutL xs lo hi))
  | .tup xs => Q (.tup (cutL xs lo hi))
  | _ => False
def mSlice (ma : TM) (ml mu : OM) : TM := fun δ Q E => ma δ (fun d => ml δ (fun lo => mu δ (fun hi => fSlice d lo hi Q) E) E) E
theorem Reps.cut {K : PySem.W.Frag} {H : Hp} {xs : List V} {ds : List D} (r : Reps K H xs ds) (lo hi : Option Int) : Reps K H (cutV xs lo hi) (cutL ds lo hi) := by
  unfold cutV cutL
  rw [r.length]
  exact (r.drop _).take _
theorem de_slice {lo hi : Option Expr} {ml mu : OM} {p2 : Pos} (he : DE X W e ba ma) (hl : DO X W lo ml) (hu : DO X W hi mu) : DE X W (.Subscript e (.Slice lo hi none p2) pos) false (mSlice ma ml mu) :=
  PE.imp (pe_slice (SlR.or sl_list sl_tupA) he hl hu) fun σ H Q ⟨F, own, δ, P, EK, A, m, q⟩ => ⟨F, own, δ, _, EK, A, m, fun d v H1 m1 s1 r1 => ⟨F, own, δ, _, EK, A.on s1, m1, fun l H2 m2 s2 => ⟨F, own, δ, _, EK, A.on (s1.trans s2), m2, fun u H3 m3 s3 => by
    have r3 := r1.mono (s2.trans s3).ob
    have t3 := (A.env.grow ((s1.trans s2).trans s3)).trk
    unfold fSlice at m3
    split at m3
    · obtain ⟨a, xs, rfl, h1, h2, h3⟩ := r3.list
      have hz : (cutV xs l u).length ≤ sizeLine := Nat.le_trans (cutV_length xs l u) h2
      exact .inl ⟨a, xs, rfl, .of h1, fun p hp => q _ _ _ m3 (((s1.trans s2).trans s3).trans (same_upd hp)) (.cl (new_list t3 hp hz (h3.cut l u)))⟩
    · rename_i dsx
      obtain ⟨a, xs, ev, h1, h2, h3⟩ := r3.tup
      subst ev
      have hz : (cutV xs l u).length ≤ sizeLine := Nat.le_trans (cutV_length xs l u) h2
      refine .inr ⟨a, xs, rfl, h1, fun ⟨q1, q2⟩ => ?_, fun _ p hp => q _ _ _ m3 (((s1.trans s2).trans s3).trans (same_upd hp)) (.cl (new_tup t3 hp hz (h3.cut l u)))⟩
      refine q _ _ H3 m3 ((s1.trans s2).trans s3) ?_
      have e : cutL dsx l u = dsx := by
        unfold cutL
        rw [← h3.length, q1, q2, List.drop_zero, Nat.sub_zero, h3.length, List.take_length]
      rw [e]
      cases r3 with
      | cl r3 => exact .cl r3
    · exact m3.elim⟩⟩⟩

/-! ### zip of two lists, of two tuples -/
def zipD (xs ys : List D) : List D := (xs.zip ys).map fun q => .tup [q.1, q.2]
theorem zipD_length (xs ys : List D) : (zipD xs ys).length = min xs.length ys.length := by unfold zipD; rw [List.length_map, List.length_zip]
theorem zipD_get {xs ys : List D} {i : Nat} {d d' : D} (h : xs[i]? = some d) (h' : ys[i]? = some d') : (zipD xs ys)[i]? = some (.tup [d, d']) := by
  unfold zipD
  rw [List.getElem?_map, List.getElem?_zip_eq_some (z := (d, d')) |>.mpr ⟨h, h'⟩]
  rfl
def mZip (la : LM) : LM := fun δ P E => la δ (fun ds => (∃ xs ys, ds = [.list xs, .list ys] ∧ P (zipD xs ys)) ∨ (∃ xs ys, ds = [.tup xs, .tup ys] ∧ P (zipD xs ys))) E
theorem itok_zipT {K : PySem.W.Frag} {Hg Hb : Hp} {a b : Addr} {xs ys : List V} {ds es : List D} (h : SqT K Hg a xs) (h' : SqT K Hg b ys) (hz : xs.length ≤ sizeLine) (r : Reps K Hb xs ds) (r' : Reps K Hb ys es) : ItOk K (RZ.ItzT K a b) Hg Hb (zipD ds es) where
  sz := by rw [zipD_length, ← r.length]; omega
  go := fun i H s hi => by
    rw [zipD_length, ← r.length, ← r'.length] at hi
    exact ⟨xs, ys, xs[i]'(by omega), ys[i]'(by omega), sameT s h, sameT s h', List.getElem?_eq_getElem _, List.getElem?_eq_getElem _⟩
  stop := fun i H s hi => by
    rw [zipD_length, ← r.length, ← r'.length] at hi
    exact ⟨xs, ys, sameT s h, sameT s h', by omega⟩
  yld := fun i H x H' ls s sb ht hi ⟨T, v, v', ev, hT, eH, k1, k2⟩ => by
    subst ev eH
    obtain ⟨d, e1, r1⟩ := r.get (k1 xs (sameT s h))
    obtain ⟨d', e2, r2⟩ := r'.get (k2 ys (sameT s h'))
    exact ⟨_, zipD_get e1 e2, same_upd hT, new_tup ht hT (by show 2 ≤ sizeLine; rw [sizeLine_eq]; decide) (.cons (r1.mono sb) (.cons (r2.mono sb) .nil))⟩
theorem itok_zipL {K : PySem.W.Frag} {Hg Hb : Hp} {a b : Addr} {xs ys : List V} {ds es : List D} (h : Hg a = some (.lst xs)) (h' : Hg b = some (.lst ys)) (hz : xs.length ≤ sizeLine) (r : Reps K Hb xs ds) (r' : Reps K Hb ys es) : ItOk K (L2.Itz K a b) Hg Hb (zipD ds es) where
  sz := by rw [zipD_length, ← r.length]; omega
  go := fun i H s hi => by
    rw [zipD_length, ← r.length, ← r'.length] at hi
    exact ⟨xs, ys, xs[i]'(by omega), ys[i]'(by omega), .of (s _ _ h), .of (s _ _ h'), List.getElem?_eq_getElem _, List.getElem?_eq_getElem _⟩
  stop := fun i H s hi => by
    rw [zipD_length, ← r.length, ← r'.length] at hi
    exact ⟨xs, ys, .of (s _ _ h), .of (s _ _ h'), by omega⟩
  yld := fun i H x H' ls s sb ht hi ⟨T, v, v', ev, hT, eH, k1, k2⟩ => by
    subst ev eH
    obtain ⟨d, e1, r1⟩ := r.get (k1 xs (.of (s _ _ h)))
    obtain ⟨d', e2, r2⟩ := r'.get (k2 ys (.of (s _ _ h')))
    exact ⟨_, zipD_get e1 e2, same_upd hT, new_tup ht hT (by show 2 ≤ sizeLine; rw [sizeLine_eq]; decide) (.cons (r1.mono sb) (.cons (r2.mono sb) .nil))⟩
theorem flo_mono {H H' : Hp} {b : Bool} {ls : List Addr} (e : Grow H H') : Grow (flo b H ls) (flo b H' ls) := by
  unfold flo
  split
  · exact e
  · exact sub_same e
theorem RVs.twob {K : PySem.W.Frag} {fo ls : List Addr} {H : Hp} {b : Bool} {vs : List V} {d d' : D} (r : RVs K fo ls H b vs [d, d']) : ∃ v v', vs = [v, v'] ∧ RV K fo ls H b v d ∧ RV K fo ls H b v' d' := r.two
theorem di_zip {elts : List Expr} {kk : Nat} {tpos : Pos} (hg : Gl X "zip") (hm : X.mg "zip" = none) (ha : DA X W [e, e2] ba la) (hs : starEach [e, e2] X.env = (false, eval e X.env) :: starEach [e2] X.env := by rfl) (hpl : (backTo pos (starEach [e2] X.env)).any (·.1) = false := by rfl) :
    DI X W (.Tuple elts kk tpos) (.Call (.Name "zip" p) [e, e2] [] pos) ba (mZip la) :=
  PI.imp (RZ.pi_zipA hg hm ha hs hpl) fun σ H R ⟨F, own, δ, P, EK, A, m, q⟩ => ⟨F, own, δ, _, EK, A, m, fun ds vs H1 pq s r => by
    rcases pq with ⟨xs, ys, rfl, pq⟩ | ⟨xs, ys, rfl, pq⟩
    · obtain ⟨v, v', rfl, r1, r2⟩ := r.twob
      obtain ⟨a, us, rfl, h1, h2, h3⟩ := flo_list r1
      obtain ⟨b, ws, rfl, g1, g2, g3⟩ := flo_list r2
      exact ⟨a, b, us, ws, rfl, .inl ⟨.of (flo_le _ _ h1), .of (flo_le _ _ g1), q _ _ H1 pq s (itok_zipL h1 g1 h2 h3 g3)⟩⟩
    · obtain ⟨v, v', rfl, r1, r2⟩ := r.twob
      obtain ⟨a, us, rfl, h1, h2, h3⟩ := flo_tup r1
      obtain ⟨b, ws, rfl, g1, g2, g3⟩ := flo_tup r2
      exact ⟨a, b, us, ws, rfl, .inr ⟨sameT flo_le h1, sameT flo_le g1, q _ _ H1 pq s (itok_zipT h1 g1 h2 h3 g3)⟩⟩⟩
end
end DL

set_option Elab.async false
set_option linter.all false
set_option maxRecDepth 100000
set_option maxHeartbeats 4000000
/-! DL10: loops over data. -/
namespace DL
open PySem PySem.Spec PyProof.Rows L2
variable [TabsC]

section
variable {g : GM} {mt : BM} {me : TM} {mb : SM} {δ0 δ : List DV} {k : KD}
/-- a comprehension whose turns are reckoned -/
theorem compL_det {ds : List D} (p : D → Bool) (f : D → D) (h : ∀ d, d ∈ ds → ∀ (R : D → Prop) (S : Prop), (if p d = true then R (f d) else S) → g d δ0 fun δ' => mt δ' (fun b => if b = true then me δ' R NoE else S) NoE) :
    ∀ {acc : List D} {Q : D → Prop}, Q (.list (acc ++ (ds.filter p).map f)) → compL g mt me δ0 ds acc Q := by
  induction ds with
  | nil =>
    intro acc Q q
    simpa [compL] using q
  | cons d ds ih =>
    intro acc Q q
    unfold compL
    refine h d List.mem_cons_self _ _ ?_
    by_cases e : p d = true
    · rw [if_pos e]
      refine ih (fun d' h' => h d' (List.mem_cons_of_mem _ h')) ?_
      rw [List.filter_cons_of_pos e] at q
      simpa using q
    · rw [if_neg e]
      refine ih (fun d' h' => h d' (List.mem_cons_of_mem _ h')) ?_
      rw [List.filter_cons_of_neg e] at q
      exact q
/-- .. without a test -/
theorem compL_map {ds : List D} (f : D → D) (h : ∀ d, d ∈ ds → ∀ (R : D → Prop) (S : Prop), R (f d) → g d δ0 fun δ' => mt δ' (fun b => if b = true then me δ' R NoE else S) NoE) {acc : List D} {Q : D → Prop} (q : Q (.list (acc ++ ds.map f))) : compL g mt me δ0 ds acc Q := by
  refine compL_det (fun _ => true) f (fun d hd R S r => h d hd R S (by simpa using r)) ?_
  have e : ds.filter (fun _ => true) = ds := List.filter_eq_self.mpr fun _ _ => rfl
  rw [e]
  exact q
/-- .. whose items are drawn: as many as there are turns, each one of its kind -/
theorem compL_any {ds : List D} (p : D → Prop) (h : ∀ d, d ∈ ds → ∀ (R : D → Prop) (S : Prop), (∀ y, p y → R y) → g d δ0 fun δ' => mt δ' (fun b => if b = true then me δ' R NoE else S) NoE) :
    ∀ {acc : List D} {Q : D → Prop}, (∀ ys : List D, ys.length = ds.length → (∀ y, y ∈ ys → p y) → Q (.list (acc ++ ys))) → compL g mt me δ0 ds acc Q := by
  induction ds with
  | nil =>
    intro acc Q q
    have := q [] rfl (fun y hy => absurd hy (by simp))
    simpa [compL] using this
  | cons d ds ih =>
    intro acc Q q
    unfold compL
    refine h d List.mem_cons_self _ _ fun y hy => ?_
    refine ih (fun d' h' => h d' (List.mem_cons_of_mem _ h')) fun ys hl hp => ?_
    have := q (y :: ys) (by rw [List.length_cons, List.length_cons, hl]) (fun z hz => (List.mem_cons.mp hz).elim (fun e => by rw [e]; exact hy) (hp z))
    simpa using this
/-- .. with a test that is drawn, too: a part of what the turns give -/
theorem compL_some {ds : List D} (p : D → Prop) (h : ∀ d, d ∈ ds → ∀ (R : D → Prop) (S : Prop), S → (∀ y, p y → R y) → g d δ0 fun δ' => mt δ' (fun b => if b = true then me δ' R NoE else S) NoE) :
    ∀ {acc : List D} {Q : D → Prop}, (∀ ys : List D, ys.length ≤ ds.length → (∀ y, y ∈ ys → p y) → Q (.list (acc ++ ys))) → compL g mt me δ0 ds acc Q := by
  induction ds with
  | nil =>
    intro acc Q q
    have := q [] (Nat.le_refl _) (fun y hy => absurd hy (by simp))
    simpa [compL] using this
  | cons d ds ih =>
    intro acc Q q
    unfold compL
    refine h d List.mem_cons_self _ _ (ih (fun d' h' => h d' (List.mem_cons_of_mem _ h')) fun ys hl hp => q ys (by rw [List.length_cons]; omega) hp) fun y hy => ?_
    refine ih (fun d' h' => h d' (List.mem_cons_of_mem _ h')) fun ys hl hp => ?_
    have := q (y :: ys) (by rw [List.length_cons, List.length_cons]; omega) (fun z hz => (List.mem_cons.mp hz).elim (fun e => by rw [e]; exact hy) (hp z))
    simpa using this
/-- a loop by what holds ahead of each turn -/
theorem forL_inv {ds : List D} (I : Nat → List DV → Prop) (h : ∀ (i : Nat) (d : D) (δ : List DV) (N : List DV → Prop), ds[i]? = some d → I i δ → (∀ δ', I (i + 1) δ' → N δ') → g d δ fun δ' => mb δ' { k with nx := N, ct := N, bk := k.nx })
    (h0 : I 0 δ) (hd : ∀ δ, I ds.length δ → k.nx δ) : forL g mb ds δ k := by
  have go : ∀ (n i : Nat) (δ : List DV), i + n = ds.length → I i δ → forL g mb (ds.drop i) δ k := by
    intro n
    induction n with
    | zero =>
      intro i δ e hi
      have e' : i = ds.length := by omega
      subst e'
      rw [List.drop_length]
      exact hd δ hi
    | succ n ih =>
      intro i δ e hi
      have hl : i < ds.length := by omega
      have eg : ds[i]? = some ds[i] := List.getElem?_eq_getElem hl
      rw [drop_get eg]
      exact h i _ δ _ eg hi fun δ' h' => ih (i + 1) δ' (by omega) h'
  simpa using go ds.length 0 δ (by omega) h0
end
theorem rangeD_get {lo : Int} {n i : Nat} {d : D} (h : (rangeD lo n)[i]? = some d) : i < n ∧ d = .int (lo + i) := by
  unfold rangeD at h
  rw [List.getElem?_map] at h
  by_cases hi : i < n
  · rw [List.getElem?_range hi] at h
    exact ⟨hi, (Option.some.inj h).symm⟩
  · rw [List.getElem?_eq_none (by simpa using hi)] at h
    cases h
theorem rangeD_mem {lo : Int} {n : Nat} {d : D} (h : d ∈ rangeD lo n) : ∃ i : Nat, i < n ∧ d = .int (lo + i) := by
  obtain ⟨i, hi⟩ := List.getElem?_of_mem h
  exact ⟨i, rangeD_get hi⟩
theorem atI_of {α : Type} {xs : List α} {i : Int} (h0 : 0 ≤ i) (h1 : i < xs.length) : ∃ x, atI xs i = some x ∧ x ∈ xs := by
  have hn : i.toNat < xs.length := by omega
  refine ⟨xs[i.toNat], ?_, List.getElem_mem hn⟩
  have := atI_nat (xs := xs) (j := i.toNat) (v := xs[i.toNat]) (List.getElem?_eq_getElem hn)
  rwa [Int.toNat_of_nonneg h0] at this
end DL

set_option Elab.async false
set_option linter.all false
set_option maxRecDepth 100000
set_option maxHeartbeats 4000000
/-! DL11: equations for the walk over data. -/
namespace DL
open PySem PySem.Spec PyProof.Rows L2
variable [TabsC]
theorem p61 : (2 : Int) ^ 61 = 2305843009213693952 := by decide
theorem szl {n : Nat} (h : n ≤ 16777216) : n ≤ sizeLine := by rw [sizeLine_eq]; exact h
theorem eAbs {i : Int} {Q : D → Prop} : fAbs [.int i] Q = Q (.int (if i < 0 then -i else i)) := propext ⟨fun ⟨j, e, q⟩ => by cases e; exact q, fun q => ⟨i, rfl, q⟩⟩
theorem eMax2 {i j : Int} {Q : D → Prop} : fMax2 [.int i, .int j] Q = Q (.int (if j > i then j else i)) := propext ⟨fun ⟨_, _, e, q⟩ => by cases e; exact q, fun q => ⟨i, j, rfl, q⟩⟩
theorem eMin2 {i j : Int} {Q : D → Prop} : fMin2 [.int i, .int j] Q = Q (.int (if j < i then j else i)) := propext ⟨fun ⟨_, _, e, q⟩ => by cases e; exact q, fun q => ⟨i, j, rfl, q⟩⟩
theorem fRepr_bool {b : Bool} {Q : D → Prop} (h : Q (.str (if b then "True" else "False"))) : fRepr [.bool b] Q := by
  refine ⟨.bool b, rfl, rfl, rfl, Nat.zero_le _, ?_, ?_⟩
  · simp only [D.py, PyData.shown]
    cases b
    · show Str.length "False" ≤ sizeLine
      rw [sizeLine_eq]; decide +kernel
    · show Str.length "True" ≤ sizeLine
      rw [sizeLine_eq]; decide +kernel
  · simpa only [D.py, PyData.shown] using h
theorem fine_tf (b : Bool) : (D.str (if b then "True" else "False")).fine = true := by cases b <;> decide +kernel
theorem eqD_str (x y : Str) : eqD (.str x) (.str y) = (x == y) := by simp only [eqD, D.py, PyData.eqv]
theorem tf_ne (b c : Bool) : (!eqD (.str (if b then "True" else "False")) (.str (if c then "True" else "False"))) = decide (b ≠ c) := by cases b <;> cases c <;> decide +kernel
/-- repr(b) != repr(c), of truth values -/
theorem fNe_tf {b c : Bool} {Q : Bool → Prop} (h : Q (decide (b ≠ c))) : fNe (.str (if b then "True" else "False")) (.str (if c then "True" else "False")) Q :=
  ⟨fine_tf b, fine_tf c, by rw [tf_ne]; exact h⟩
section
variable {i j : Int} {Q : D → Prop} {R : Bool → Prop} {a b : Str} {xs ys : List D} {ns : List Int} {p q : Bool} {C : Int → Int → Prop} {g : Int → Int → Int} {gt : Int → Int → Bool} {ht : List Nat → List Nat → Bool} {lo hi : Option Int}
theorem e_fIx_1 : fIx (.list xs) (.int i) Q = ∃ d, atI xs i = some d ∧ Q d := rfl
theorem e_fIx_2 : fIx (.tup xs) (.int i) Q = ∃ d, atI xs i = some d ∧ Q d := rfl
theorem e_fIx_3 : fIx (.script ns) (.int i) Q = ∃ n, atI ns i = some n ∧ Q (.int n) := rfl
theorem e_fIx_4 : fIx (.str a) (.int i) Q = ∃ c, a.length ≤ sizeLine ∧ atI a.cps.toList i = some c ∧ Q (.str ⟨#[c]⟩) := rfl
theorem e_fAdd_1 : fAdd (.int i) (.int j) Q = Q (.int (i + j)) := rfl
theorem e_fAdd_2 : fAdd (.str a) (.str b) Q = (a.length + b.length ≤ sizeLine ∧ Q (.str (a ++ b))) := rfl
theorem e_fAdd_3 : fAdd (.tup xs) (.tup ys) Q = (xs.length + ys.length ≤ sizeLine ∧ Q (.tup (xs ++ ys))) := rfl
theorem e_fAdd_4 : fAdd (.list xs) (.list ys) Q = (xs.length + ys.length ≤ sizeLine ∧ Q (.list (xs ++ ys))) := rfl
theorem e_fSub_1 : fSub (.int i) (.int j) Q = Q (.int (i - j)) := rfl
theorem e_fI_1 : fI C g (.int i) (.int j) Q = (C i j ∧ Q (.int (g i j))) := rfl
theorem e_fCmp_1 : fCmp gt ht (.int i) (.int j) R = R (gt i j) := rfl
theorem e_fCmp_2 : fCmp gt ht (.str a) (.str b) R = R (ht a.cps.toList b.cps.toList) := rfl
theorem e_fIsB_1 : fIsB (.bool p) (.bool q) R = R (decide (p = q)) := rfl
theorem e_fIsNotB_1 : fIsNotB (.bool p) (.bool q) R = R (!decide (p = q)) := rfl
theorem e_fLen_1 : fLen [.list xs] Q = Q (.int xs.length) := rfl
theorem e_fLen_2 : fLen [.tup xs] Q = Q (.int xs.length) := rfl
theorem e_fLen_3 : fLen [.script ns] Q = Q (.int ns.length) := rfl
theorem e_fLen_4 : fLen [.str a] Q = (a.length ≤ sizeLine ∧ Q (.int a.length)) := rfl
theorem e_fInt_1 : fInt [.int i] Q = Q (.int i) := rfl
theorem e_fInt_2 : fInt [.bool p] Q = Q (.int (if p then 1 else 0)) := rfl
theorem e_fTuple_1 : fTuple [.list xs] Q = Q (.tup xs) := rfl
theorem e_fTuple_2 : fTuple [.tup xs] Q = Q (.tup xs) := rfl
theorem e_fList_1 : fList [.list xs] Q = Q (.list xs) := rfl
theorem e_fList_2 : fList [.tup xs] Q = Q (.list xs) := rfl
theorem e_fSlice_1 : fSlice (.list xs) lo hi Q = Q (.list (cutL xs lo hi)) := rfl
theorem e_fSlice_2 : fSlice (.tup xs) lo hi Q = Q (.tup (cutL xs lo hi)) := rfl
end
/-- data of the plain kinds, at most n deep -/
def fineN (n : Nat) (d : D) : Prop := d.isPy = true ∧ d.py.canLay0 = true ∧ d.py.depth ≤ n
theorem fineN.fine {n : Nat} {d : D} (h : fineN n d) (hn : n ≤ 64) : d.fine = true := by
  unfold D.fine SeqAt.shaped
  rw [h.1, h.2.1, decide_eq_true (Nat.le_trans h.2.2 hn)]
  rfl
theorem fineN.mono {n m : Nat} {d : D} (h : fineN n d) (hn : n ≤ m) : fineN m d := ⟨h.1, h.2.1, Nat.le_trans h.2.2 hn⟩
theorem fineN_int {n : Nat} {i : Int} : fineN n (.int i) := ⟨rfl, rfl, Nat.zero_le _⟩
theorem fineN_bool {n : Nat} {b : Bool} : fineN n (.bool b) := ⟨rfl, rfl, Nat.zero_le _⟩
theorem fineN_none {n : Nat} : fineN n .none := ⟨rfl, rfl, Nat.zero_le _⟩
def okS (x : Str) : Prop := PyData.strOk x = true
theorem fineN_str {n : Nat} {x : Str} (h : okS x) : fineN n (.str x) := ⟨rfl, h, Nat.zero_le _⟩
theorem okS_iff {x : Str} : okS x ↔ ∀ c, c ∈ x.cps.toList → c < 0x110000 := by
  unfold okS PyData.strOk
  rw [Array.all_eq_true_iff_forall_mem]
  simp
theorem okS_append {x y : Str} (hx : okS x) (hy : okS y) : okS (x ++ y) := by
  rw [okS_iff] at *
  intro c hc
  have e : (x ++ y).cps = x.cps ++ y.cps := rfl
  rw [e, Array.toList_append, List.mem_append] at hc
  exact hc.elim (hx c) (hy c)
theorem okS_sign {c : Nat} (h : c < 0x110000) : okS ⟨#[c]⟩ := by
  rw [okS_iff]; intro d hd
  have : d = c := by simpa using hd
  omega
theorem okS_join {z : Str} (hz : okS z) : ∀ {ys : List Str}, (∀ y, y ∈ ys → okS y) → okS (Txt.join z ys) := by
  intro ys h
  have e : Txt.join z ys = Str.join z ys := StrLaws.glued_eq_join _ _
  rw [e]
  induction ys with
  | nil => exact (by decide +kernel : PyData.strOk Str.empty = true)
  | cons y ys ih =>
    cases ys with
    | nil => exact h y List.mem_cons_self
    | cons w ws => exact okS_append (okS_append (h y List.mem_cons_self) hz) (ih (fun w hw => h w (List.mem_cons_of_mem _ hw)) (StrLaws.glued_eq_join _ _))
/-- texts of one sign each, glued -/
theorem sum_ones : ∀ ys : List Str, (∀ y, y ∈ ys → y.length = 1) → (ys.map (·.length)).sum = ys.length
  | [], _ => rfl
  | y :: ys, h => by
    rw [List.map_cons, List.sum_cons, h y List.mem_cons_self, sum_ones ys fun z hz => h z (List.mem_cons_of_mem _ hz), List.length_cons]
    omega
theorem join_len : ∀ ys : List Str, (∀ y, y ∈ ys → y.length = 1) → (Txt.join "" ys).length = ys.length := by
  intro ys h
  have e : Txt.join "" ys = Str.join "" ys := StrLaws.glued_eq_join _ _
  rw [e]
  induction ys with
  | nil => rfl
  | cons y ys ih =>
    cases ys with
    | nil => show y.length = 1; exact h y List.mem_cons_self
    | cons z zs =>
      show (y ++ ("" : Str) ++ Str.join "" (z :: zs)).length = _
      rw [Str.length_append, Str.length_append, ih (fun w hw => h w (List.mem_cons_of_mem _ hw)) (StrLaws.glued_eq_join _ _), h y List.mem_cons_self]
      show 1 + 0 + (z :: zs).length = (y :: z :: zs).length
      rw [List.length_cons, List.length_cons, List.length_cons]
      omega
theorem strs_of (p : Str → Prop) : ∀ ys : List D, (∀ y, y ∈ ys → ∃ x : Str, y = .str x ∧ p x) → ∃ xs : List Str, ys = xs.map .str ∧ xs.length = ys.length ∧ ∀ x, x ∈ xs → p x
  | [], _ => ⟨[], rfl, rfl, fun _ h => absurd h (by simp)⟩
  | y :: ys, h => by
    obtain ⟨x, rfl, hx⟩ := h y List.mem_cons_self
    obtain ⟨xs, rfl, hl, hh⟩ := strs_of p ys fun z hz => h z (List.mem_cons_of_mem _ hz)
    exact ⟨x :: xs, rfl, by simp, fun z hz => (List.mem_cons.mp hz).elim (fun e => by rw [e]; exact hx) (hh z)⟩
theorem ints_of (p : Int → Prop) : ∀ ys : List D, (∀ y, y ∈ ys → ∃ x : Int, y = .int x ∧ p x) → ∃ xs : List Int, ys = xs.map .int ∧ xs.length = ys.length ∧ ∀ x, x ∈ xs → p x
  | [], _ => ⟨[], rfl, rfl, fun _ h => absurd h (by simp)⟩
  | y :: ys, h => by
    obtain ⟨x, rfl, hx⟩ := h y List.mem_cons_self
    obtain ⟨xs, rfl, hl, hh⟩ := ints_of p ys fun z hz => h z (List.mem_cons_of_mem _ hz)
    exact ⟨x :: xs, rfl, by simp, fun z hz => (List.mem_cons.mp hz).elim (fun e => by rw [e]; exact hx) (hh z)⟩
theorem fineN_all {n : Nat} : ∀ {ds : List D}, (∀ d, d ∈ ds → fineN n d) → D.arePy ds = true ∧ PyData.canLayAll0 (D.pys ds) = true ∧ PyData.depthAll (D.pys ds) ≤ n
  | [], _ => ⟨rfl, rfl, Nat.zero_le _⟩
  | d :: ds, h => by
    obtain ⟨h1, h2, h3⟩ := h d List.mem_cons_self
    obtain ⟨g1, g2, g3⟩ := fineN_all (ds := ds) fun x hx => h x (List.mem_cons_of_mem _ hx)
    refine ⟨?_, ?_, ?_⟩
    · unfold D.arePy; rw [h1, g1]; rfl
    · unfold D.pys PyData.canLayAll0; rw [h2, g2]; rfl
    · unfold D.pys PyData.depthAll; omega
theorem fineN_list {n : Nat} {ds : List D} (h : ∀ d, d ∈ ds → fineN n d) : fineN (n + 1) (.list ds) := by
  obtain ⟨g1, g2, g3⟩ := fineN_all h
  refine ⟨?_, ?_, ?_⟩
  · unfold D.isPy; exact g1
  · unfold D.py PyData.canLay0; exact g2
  · unfold D.py PyData.depth; omega
theorem fineN_tup {n : Nat} {ds : List D} (h : ∀ d, d ∈ ds → fineN n d) : fineN (n + 1) (.tup ds) := by
  obtain ⟨g1, g2, g3⟩ := fineN_all h
  refine ⟨?_, ?_, ?_⟩
  · unfold D.isPy; exact g1
  · unfold D.py PyData.canLay0; exact g2
  · unfold D.py PyData.depth; omega
/-- equality of lists, item by item -/
def eqAll : List D → List D → Bool
  | [], [] => true
  | x :: xs, y :: ys => eqD x y && eqAll xs ys
  | _, _ => false
theorem eqvAll_pys : ∀ xs ys : List D, PyData.eqvAll (D.pys xs) (D.pys ys) = eqAll xs ys
  | [], [] => by simp [D.pys, PyData.eqvAll, eqAll]
  | [], _ :: _ => by simp [D.pys, PyData.eqvAll, eqAll]
  | _ :: _, [] => by simp [D.pys, PyData.eqvAll, eqAll]
  | x :: xs, y :: ys => by simp only [D.pys, PyData.eqvAll, eqAll, eqD, eqvAll_pys xs ys]
theorem eqD_list (xs ys : List D) : eqD (.list xs) (.list ys) = eqAll xs ys := by simp only [eqD, D.py, PyData.eqv, eqvAll_pys]
theorem eqD_tup (xs ys : List D) : eqD (.tup xs) (.tup ys) = eqAll xs ys := by simp only [eqD, D.py, PyData.eqv, eqvAll_pys]
theorem eqD_int (i j : Int) : eqD (.int i) (.int j) = (i == j) := by simp only [eqD, D.py, PyData.eqv]
theorem eqD_bool (i j : Bool) : eqD (.bool i) (.bool j) = (i == j) := by simp only [eqD, D.py, PyData.eqv]
theorem eqD_none : eqD .none .none = true := by simp only [eqD, D.py, PyData.eqv]
theorem eqD_refl {d : D} (h : d.fine = true) : eqD d d = true := SeqAt.eqv_refl d.py (fine_lay h)
theorem eqAll_nil (xs : List D) : eqAll xs [] = xs.isEmpty := by cases xs <;> rfl
/-- equal lists, by what they hold -/
theorem fEq_same {d : D} {Q : Bool → Prop} (h : d.fine = true) (q : Q true) : fEq d d Q := ⟨h, h, by rw [eqD_refl h]; exact q⟩
theorem fNe_same {d : D} {Q : Bool → Prop} (h : d.fine = true) (q : Q false) : fNe d d Q := ⟨h, h, by rw [eqD_refl h]; exact q⟩
theorem eqAll_ints : ∀ xs ys : List Int, eqAll (xs.map .int) (ys.map .int) = (xs == ys)
  | [], [] => rfl
  | [], _ :: _ => rfl
  | _ :: _, [] => rfl
  | x :: xs, y :: ys => by
    show (eqD (.int x) (.int y) && eqAll (xs.map .int) (ys.map .int)) = _
    rw [eqD_int, eqAll_ints xs ys]
    rfl
theorem eqAll_strs : ∀ xs ys : List Str, eqAll (xs.map .str) (ys.map .str) = (xs == ys)
  | [], [] => rfl
  | [], _ :: _ => rfl
  | _ :: _, [] => rfl
  | x :: xs, y :: ys => by
    show (eqD (.str x) (.str y) && eqAll (xs.map .str) (ys.map .str)) = _
    rw [eqD_str, eqAll_strs xs ys]
    rfl
end DL

set_option Elab.async false
set_option linter.all false
set_option maxRecDepth 100000
set_option maxHeartbeats 4000000
/-! DL12: kinds; shown texts of plain data; decimal lengths. -/
namespace DL
open PySem PySem.Spec PyProof.Rows L2
variable [TabsC]
/-! ### kinds -/
def D.isI : D → Bool
  | .int _ => true
  | .bool _ => true
  | _ => false
def D.isB : D → Bool
  | .bool _ => true
  | _ => false
def D.isS : D → Bool
  | .str _ => true
  | _ => false
def D.isT : D → Bool
  | .tup _ => true
  | _ => false
def D.isL : D → Bool
  | .list _ => true
  | _ => false
def D.isD : D → Bool
  | .dict _ => true
  | _ => false
theorem kit_int {d : D} {t : String} (h : d.tyn = some t) : kitB t "int" = some d.isI := by
  cases d with
  | none => cases h; exact (by decide +kernel : kitB "NoneType" "int" = some false)
  | bool _ => cases h; exact (by decide +kernel : kitB "bool" "int" = some true)
  | int _ => cases h; exact (by decide +kernel : kitB "int" "int" = some true)
  | str _ => cases h; exact (by decide +kernel : kitB "str" "int" = some false)
  | list _ => cases h; exact (by decide +kernel : kitB "list" "int" = some false)
  | tup _ => cases h; exact (by decide +kernel : kitB "tuple" "int" = some false)
  | dict _ => cases h; exact (by decide +kernel : kitB "dict" "int" = some false)
  | dice => cases h
  | script _ => cases h
  | opq _ _ => cases h
  | ty _ => cases h
  | obj _ _ => cases h
  | fn _ => cases h
  | exc _ _ _ _ _ => cases h
theorem kit_bool {d : D} {t : String} (h : d.tyn = some t) : kitB t "bool" = some d.isB := by
  cases d with
  | none => cases h; exact (by decide +kernel : kitB "NoneType" "bool" = some false)
  | bool _ => cases h; exact (by decide +kernel : kitB "bool" "bool" = some true)
  | int _ => cases h; exact (by decide +kernel : kitB "int" "bool" = some false)
  | str _ => cases h; exact (by decide +kernel : kitB "str" "bool" = some false)
  | list _ => cases h; exact (by decide +kernel : kitB "list" "bool" = some false)
  | tup _ => cases h; exact (by decide +kernel : kitB "tuple" "bool" = some false)
  | dict _ => cases h; exact (by decide +kernel : kitB "dict" "bool" = some false)
  | dice => cases h
  | script _ => cases h
  | opq _ _ => cases h
  | ty _ => cases h
  | obj _ _ => cases h
  | fn _ => cases h
  | exc _ _ _ _ _ => cases h
theorem kit_str {d : D} {t : String} (h : d.tyn = some t) : kitB t "str" = some d.isS := by
  cases d with
  | none => cases h; exact (by decide +kernel : kitB "NoneType" "str" = some false)
  | bool _ => cases h; exact (by decide +kernel : kitB "bool" "str" = some false)
  | int _ => cases h; exact (by decide +kernel : kitB "int" "str" = some false)
  | str _ => cases h; exact (by decide +kernel : kitB "str" "str" = some true)
  | list _ => cases h; exact (by decide +kernel : kitB "list" "str" = some false)
  | tup _ => cases h; exact (by decide +kernel : kitB "tuple" "str" = some false)
  | dict _ => cases h; exact (by decide +kernel : kitB "dict" "str" = some false)
  | dice => cases h
  | script _ => cases h
  | opq _ _ => cases h
  | ty _ => cases h
  | obj _ _ => cases h
  | fn _ => cases h
  | exc _ _ _ _ _ => cases h
theorem kit_tup {d : D} {t : String} (h : d.tyn = some t) : kitB t "tuple" = some d.isT := by
  cases d with
  | none => cases h; exact (by decide +kernel : kitB "NoneType" "tuple" = some false)
  | bool _ => cases h; exact (by decide +kernel : kitB "bool" "tuple" = some false)
  | int _ => cases h; exact (by decide +kernel : kitB "int" "tuple" = some false)
  | str _ => cases h; exact (by decide +kernel : kitB "str" "tuple" = some false)
  | list _ => cases h; exact (by decide +kernel : kitB "list" "tuple" = some false)
  | tup _ => cases h; exact (by decide +kernel : kitB "tuple" "tuple" = some true)
  | dict _ => cases h; exact (by decide +kernel : kitB "dict" "tuple" = some false)
  | dice => cases h
  | script _ => cases h
  | opq _ _ => cases h
  | ty _ => cases h
  | obj _ _ => cases h
  | fn _ => cases h
  | exc _ _ _ _ _ => cases h
theorem kit_list {d : D} {t : String} (h : d.tyn = some t) : kitB t "list" = some d.isL := by
  cases d with
  | none => cases h; exact (by decide +kernel : kitB "NoneType" "list" = some false)
  | bool _ => cases h; exact (by decide +kernel : kitB "bool" "list" = some false)
  | int _ => cases h; exact (by decide +kernel : kitB "int" "list" = some false)
  | str _ => cases h; exact (by decide +kernel : kitB "str" "list" = some false)
  | list _ => cases h; exact (by decide +kernel : kitB "list" "list" = some true)
  | tup _ => cases h; exact (by decide +kernel : kitB "tuple" "list" = some false)
  | dict _ => cases h; exact (by decide +kernel : kitB "dict" "list" = some false)
  | dice => cases h
  | script _ => cases h
  | opq _ _ => cases h
  | ty _ => cases h
  | obj _ _ => cases h
  | fn _ => cases h
  | exc _ _ _ _ _ => cases h
theorem kit_dict {d : D} {t : String} (h : d.tyn = some t) : kitB t "dict" = some d.isD := by
  cases d with
  | none => cases h; exact (by decide +kernel : kitB "NoneType" "dict" = some false)
  | bool _ => cases h; exact (by decide +kernel : kitB "bool" "dict" = some false)
  | int _ => cases h; exact (by decide +kernel : kitB "int" "dict" = some false)
  | str _ => cases h; exact (by decide +kernel : kitB "str" "dict" = some false)
  | list _ => cases h; exact (by decide +kernel : kitB "list" "dict" = some false)
  | tup _ => cases h; exact (by decide +kernel : kitB "tuple" "dict" = some false)
  | dict _ => cases h; exact (by decide +kernel : kitB "dict" "dict" = some true)
  | dice => cases h
  | script _ => cases h
  | opq _ _ => cases h
  | ty _ => cases h
  | obj _ _ => cases h
  | fn _ => cases h
  | exc _ _ _ _ _ => cases h
theorem isi_of {d : D} {n : String} {r : Bool} {Q : D → Prop} (k : ∀ t, d.tyn = some t → kitB t n = some r) (h : d.tyn.isSome = true) : fIsi [d, .ty n] Q = Q (.bool r) := by
  obtain ⟨t, ht⟩ := Option.isSome_iff_exists.mp h
  refine propext ⟨fun ⟨d', n', t', r', e, h1, h2, q⟩ => ?_, fun q => ⟨d, n, t, r, rfl, ht, k t ht, q⟩⟩
  cases e
  rw [k t' h1] at h2
  cases h2
  exact q
theorem isi_int {d : D} {Q : D → Prop} (h : d.tyn.isSome = true) : fIsi [d, .ty "int"] Q = Q (.bool d.isI) := isi_of (fun _ => kit_int) h
theorem isi_bool {d : D} {Q : D → Prop} (h : d.tyn.isSome = true) : fIsi [d, .ty "bool"] Q = Q (.bool d.isB) := isi_of (fun _ => kit_bool) h
theorem isi_str {d : D} {Q : D → Prop} (h : d.tyn.isSome = true) : fIsi [d, .ty "str"] Q = Q (.bool d.isS) := isi_of (fun _ => kit_str) h
theorem isi_tup {d : D} {Q : D → Prop} (h : d.tyn.isSome = true) : fIsi [d, .ty "tuple"] Q = Q (.bool d.isT) := isi_of (fun _ => kit_tup) h
theorem isi_list {d : D} {Q : D → Prop} (h : d.tyn.isSome = true) : fIsi [d, .ty "list"] Q = Q (.bool d.isL) := isi_of (fun _ => kit_list) h
theorem isi_dict {d : D} {Q : D → Prop} (h : d.tyn.isSome = true) : fIsi [d, .ty "dict"] Q = Q (.bool d.isD) := isi_of (fun _ => kit_dict) h
/-! ### texts -/
theorem okS_ofString (s : String) : okS (Str.ofString s) := by
  rw [okS_iff, Str.ofString_eq_toList]
  intro c hc
  simp only [List.mem_map] at hc
  obtain ⟨d, _, rfl⟩ := hc
  have := d.valid
  unfold Char.toNat
  unfold UInt32.isValidChar Nat.isValidChar at this
  omega
theorem len_dec {n : Int} (h0 : 0 ≤ n) : (Str.ofString (toString n)).length = (Nat.toDigits 10 n.toNat).length := by
  obtain ⟨m, rfl⟩ := Int.eq_ofNat_of_zero_le h0
  rw [Str.ofString_eq_toList]
  show ((toString (m : Int)).toList.map Char.toNat).toArray.size = _
  rw [List.size_toArray, List.length_map, show toString (m : Int) = m.repr from rfl, Nat.toList_repr]
  rfl
theorem len_dec_le {n : Int} {k : Nat} (h0 : 0 ≤ n) (hk : 0 < k) : (Str.ofString (toString n)).length ≤ k ↔ n < 10 ^ k := by
  rw [len_dec h0, Nat.length_toDigits_le_iff (by decide) hk]
  obtain ⟨m, rfl⟩ := Int.eq_ofNat_of_zero_le h0
  rw [Int.toNat_natCast]
  exact_mod_cast Iff.rfl
/-! ### shown data -/
structure Sh (n k : Nat) (d : D) : Prop where
  py : d.isPy = true
  sh : d.py.showable = true
  dep : d.py.depth ≤ k
  len : d.py.shown.length ≤ n
  ok : okS d.py.shown
theorem fRepr_sh {n k : Nat} {d : D} {Q : D → Prop} (h : Sh n k d) (hn : n ≤ 16777216) (hk : k ≤ 60) (q : Q (.str d.py.shown)) : fRepr [d] Q :=
  ⟨d, rfl, h.py, h.sh, Nat.le_trans h.dep hk, szl (Nat.le_trans h.len hn), q⟩
theorem fRepr_ne {n k : Nat} {d e : D} {Q : Bool → Prop} (h : Sh n k d) (hn : n ≤ 16777216) (hk : k ≤ 60) (he : d = e) (q : Q false) : fRepr [d] fun a => fRepr [e] fun b => fNe a b Q := by
  subst he
  exact fRepr_sh h hn hk (fRepr_sh h hn hk (fNe_same ((fineN_str (n := 0) h.ok).fine (by decide)) q))
theorem Sh.mono {n k n' k' : Nat} {d : D} (h : Sh n k d) (hn : n ≤ n') (hk : k ≤ k') : Sh n' k' d := ⟨h.py, h.sh, Nat.le_trans h.dep hk, Nat.le_trans h.len hn, h.ok⟩
theorem Sh_none : Sh 4 0 .none := ⟨rfl, rfl, Nat.zero_le _, by decide +kernel, (by decide +kernel : PyData.strOk ("None" : Str) = true)⟩
theorem Sh_bool {b : Bool} : Sh 5 0 (.bool b) := ⟨rfl, rfl, Nat.zero_le _, by cases b <;> decide +kernel, by cases b <;> first | exact (by decide +kernel : PyData.strOk "True" = true) | exact (by decide +kernel : PyData.strOk "False" = true)⟩
theorem Sh_int {i : Int} (h : i.natAbs.log2 < 1920) : Sh 1921 0 (.int i) := ⟨rfl, by
  show decide (i.natAbs.log2 < 1920) = true
  exact decide_eq_true h, Nat.zero_le _, by
  show (Str.ofString (toString i)).length ≤ 1921
  have := PySem.int_text_length_le (k := 1920) (by decide) h
  rw [PySem.ofString_length]
  exact this, okS_ofString _⟩
theorem join_okS {ts : List Str} (h : ∀ t, t ∈ ts → okS t) : okS (Str.join ", " ts) := by
  have e := okS_join (z := ", ") (by decide +kernel : PyData.strOk ", " = true) h
  rwa [show Txt.join ", " ts = Str.join ", " ts from StrLaws.glued_eq_join _ _] at e
theorem join_le {n : Nat} : ∀ {ts : List Str}, (∀ t, t ∈ ts → t.length ≤ n) → (Str.join ", " ts).length ≤ ts.length * (n + 2) := by
  intro ts h
  have := StrLaws.join_length_le ", " ts
  have e : (", " : Str).length = 2 := by decide +kernel
  rw [e] at this
  have g : (ts.map (·.length)).sum ≤ ts.length * n := by
    clear this
    induction ts with
    | nil => exact Nat.zero_le _
    | cons t ts ih =>
      rw [List.map_cons, List.sum_cons, List.length_cons, Nat.add_mul]
      have h1 := h t List.mem_cons_self
      have h2 := ih fun x hx => h x (List.mem_cons_of_mem _ hx)
      omega
  rw [Nat.mul_add]
  omega
theorem shown_all : ∀ ds : List D, PyData.shownAll (D.pys ds) = ds.map fun d => d.py.shown
  | [] => rfl
  | d :: ds => by simp only [D.pys, PyData.shownAll, shown_all ds, List.map_cons]
theorem Sh_all {n k : Nat} : ∀ {ds : List D}, (∀ d, d ∈ ds → Sh n k d) → D.arePy ds = true ∧ PyData.showableAll (D.pys ds) = true ∧ PyData.depthAll (D.pys ds) ≤ k
  | [], _ => ⟨rfl, rfl, Nat.zero_le _⟩
  | d :: ds, h => by
    have h1 := h d List.mem_cons_self
    obtain ⟨g1, g2, g4⟩ := Sh_all (ds := ds) fun x hx => h x (List.mem_cons_of_mem _ hx)
    refine ⟨?_, ?_, ?_⟩
    · unfold D.arePy; rw [h1.py, g1]; rfl
    · unfold D.pys PyData.showableAll; rw [h1.sh, g2]; rfl
    · unfold D.pys PyData.depthAll
      have := h1.dep
      omega
theorem textFrom_succ : ∀ (ts : List Str) (k : Nat) (acc : Str), ∃ r : Str, textFrom (k + 1) acc ts = acc ++ r ∧ (∀ n, (∀ t, t ∈ ts → t.length ≤ n) → r.length ≤ ts.length * (n + 2)) ∧ ((∀ t, t ∈ ts → okS t) → okS r)
  | [], k, acc => ⟨Str.empty, by
    show acc = acc ++ Str.empty
    apply Str.ext'
    show acc.cps = acc.cps ++ #[]
    simp, fun _ _ => Nat.zero_le _, fun _ => (by decide +kernel : PyData.strOk Str.empty = true)⟩
  | t :: ts, k, acc => by
    obtain ⟨r, e, h1, h2⟩ := textFrom_succ ts (k + 1) (acc ++ (if k + 1 > 0 then ", " else "" : String) ++ t)
    refine ⟨(", " : Str) ++ t ++ r, ?_, fun n h => ?_, fun h => ?_⟩
    · show textFrom (k + 1 + 1) _ ts = _
      rw [e, if_pos (by omega)]
      apply Str.ext'
      show (acc.cps ++ (", " : Str).cps ++ t.cps) ++ r.cps = acc.cps ++ ((", " : Str).cps ++ t.cps ++ r.cps)
      simp only [Array.append_assoc]
    · have h3 := h1 n fun x hx => h x (List.mem_cons_of_mem _ hx)
      have h4 := h t List.mem_cons_self
      rw [Str.length_append, Str.length_append, show (", " : Str).length = 2 by decide +kernel, List.length_cons, Nat.add_mul]
      omega
    · exact okS_append (okS_append (by decide +kernel : PyData.strOk ", " = true) (h t List.mem_cons_self)) (h2 fun x hx => h x (List.mem_cons_of_mem _ hx))
theorem Sh_list {n k : Nat} {ds : List D} (h : ∀ d, d ∈ ds → Sh n k d) : Sh (ds.length * (n + 2) + 2) (k + 1) (.list ds) := by
  obtain ⟨g1, g2, g4⟩ := Sh_all h
  have tl : ∀ t, t ∈ ds.map (fun d => d.py.shown) → t.length ≤ n := fun t ht => by
    obtain ⟨d, hd, rfl⟩ := List.mem_map.mp ht
    exact (h d hd).len
  have to : ∀ t, t ∈ ds.map (fun d => d.py.shown) → okS t := fun t ht => by
    obtain ⟨d, hd, rfl⟩ := List.mem_map.mp ht
    exact (h d hd).ok
  have es : (D.list ds).py.shown = listText (ds.map fun d => d.py.shown) := by rw [← shown_all]; simp only [D.py, PyData.shown]
  have key : ∀ ts : List Str, ∃ r : Str, listText ts = ("[" : Str) ++ r ++ ("]" : Str) ∧ (∀ n, (∀ t, t ∈ ts → t.length ≤ n) → r.length ≤ ts.length * (n + 2)) ∧ ((∀ t, t ∈ ts → okS t) → okS r) := by
    intro ts
    cases ts with
    | nil => exact ⟨Str.empty, by decide +kernel, fun _ _ => Nat.zero_le _, fun _ => (by decide +kernel : PyData.strOk Str.empty = true)⟩
    | cons t ts =>
      obtain ⟨r, e, h1, h2⟩ := textFrom_succ ts 0 (("[" : Str) ++ ("" : Str) ++ t)
      refine ⟨t ++ r, ?_, fun n h => ?_, fun h => okS_append (h t List.mem_cons_self) (h2 fun x hx => h x (List.mem_cons_of_mem _ hx))⟩
      · show textFrom (0 + 1) _ ts ++ _ = _
        rw [show (if 0 > 0 then ", " else "" : String) = "" from rfl, e]
        apply Str.ext'
        show (((("[" : Str).cps ++ #[]) ++ t.cps) ++ r.cps) ++ ("]" : Str).cps = (("[" : Str).cps ++ (t.cps ++ r.cps)) ++ ("]" : Str).cps
        simp only [Array.append_assoc, Array.append_empty]
      · have h3 := h1 n fun x hx => h x (List.mem_cons_of_mem _ hx)
        have h4 := h t List.mem_cons_self
        rw [Str.length_append, List.length_cons, Nat.add_mul]
        omega
  obtain ⟨r, er, h1, h2⟩ := key (ds.map fun d => d.py.shown)
  refine ⟨?_, ?_, ?_, ?_, ?_⟩
  · unfold D.isPy; exact g1
  · unfold D.py PyData.showable; exact g2
  · unfold D.py PyData.depth; omega
  · rw [es, er, Str.length_append, Str.length_append, show ("[" : Str).length = 1 by decide +kernel, show ("]" : Str).length = 1 by decide +kernel]
    have := h1 n tl
    rw [List.length_map] at this
    omega
  · rw [es, er]
    exact okS_append (okS_append (by decide +kernel : PyData.strOk "[" = true) (h2 to)) (by decide +kernel : PyData.strOk "]" = true)
theorem Sh_tup {n k : Nat} {ds : List D} (h : ∀ d, d ∈ ds → Sh n k d) : Sh (ds.length * (n + 2) + 3) (k + 1) (.tup ds) := by
  obtain ⟨g1, g2, g4⟩ := Sh_all h
  have tl : ∀ t, t ∈ ds.map (fun d => d.py.shown) → t.length ≤ n := fun t ht => by
    obtain ⟨d, hd, rfl⟩ := List.mem_map.mp ht
    exact (h d hd).len
  have to : ∀ t, t ∈ ds.map (fun d => d.py.shown) → okS t := fun t ht => by
    obtain ⟨d, hd, rfl⟩ := List.mem_map.mp ht
    exact (h d hd).ok
  have es : (D.tup ds).py.shown = tupleText (ds.map fun d => d.py.shown) := by rw [← shown_all]; simp only [D.py, PyData.shown]
  refine ⟨?_, ?_, ?_, ?_, ?_⟩
  · unfold D.isPy; exact g1
  · unfold D.py PyData.showable; exact g2
  · unfold D.py PyData.depth; omega
  · rw [es]
    unfold tupleText
    rw [Str.length_append, Str.length_append, show ("(" : Str).length = 1 by decide +kernel]
    have := join_le tl
    rw [List.length_map] at this
    have e : (Str.ofString (if (ds.map fun d => d.py.shown).length == 1 then ",)" else ")")).length ≤ 2 := by split <;> decide +kernel
    omega
  · rw [es]
    unfold tupleText
    refine okS_append (okS_append (by decide +kernel : PyData.strOk "(" = true) (join_okS to)) ?_
    split
    · exact (by decide +kernel : PyData.strOk ",)" = true)
    · exact (by decide +kernel : PyData.strOk ")" = true)
theorem keyPy_D (k : Key) : keyPy k = (match k with | .inl i => D.int i | .inr x => D.str x).py := by
  cases k <;> rfl
theorem shown_Ks : ∀ kvs : List (Key × D), PyData.shownKv (D.pyKs kvs) = kvs.map fun kv => (keyPy kv.1).shown ++ ": " ++ kv.2.py.shown
  | [] => rfl
  | (k, d) :: r => by simp only [D.pyKs, PyData.shownKv, shown_Ks r, List.map_cons]
/-- a key as it is shown -/
structure ShK (n : Nat) (k : Key) : Prop where
  sh : (keyPy k).showable = true
  len : (keyPy k).shown.length ≤ n
  ok : okS (keyPy k).shown
theorem ShK_int {i : Int} (h : i.natAbs.log2 < 1920) : ShK 1921 (.inl i) := ⟨(Sh_int h).sh, (Sh_int h).len, (Sh_int h).ok⟩
theorem Sh_Ks {n k : Nat} : ∀ {kvs : List (Key × D)}, (∀ kv, kv ∈ kvs → ShK n kv.1 ∧ Sh n k kv.2) → D.areKs kvs = true ∧ PyData.showableKv (D.pyKs kvs) = true ∧ PyData.depthKv (D.pyKs kvs) ≤ k
  | [], _ => ⟨rfl, rfl, Nat.zero_le _⟩
  | (key, d) :: r, h => by
    obtain ⟨a, b⟩ := h (key, d) List.mem_cons_self
    obtain ⟨g1, g2, g3⟩ := Sh_Ks (kvs := r) fun x hx => h x (List.mem_cons_of_mem _ hx)
    refine ⟨?_, ?_, ?_⟩
    · unfold D.areKs; rw [b.py, g1]; rfl
    · unfold D.pyKs PyData.showableKv; rw [a.sh, b.sh, g2]; rfl
    · unfold D.pyKs PyData.depthKv
      have := b.dep
      have e : (keyPy key).depth = 0 := by cases key <;> rfl
      rw [e]
      simp only at this ⊢
      omega
theorem Sh_dict {n k : Nat} {kvs : List (Key × D)} (h : ∀ kv, kv ∈ kvs → ShK n kv.1 ∧ Sh n k kv.2) : Sh (kvs.length * (n + n + 4) + 2) (k + 1) (.dict kvs) := by
  obtain ⟨g1, g2, g3⟩ := Sh_Ks h
  have es : (D.dict kvs).py.shown = dictText (kvs.map fun kv => (keyPy kv.1).shown ++ ": " ++ kv.2.py.shown) := by rw [← shown_Ks]; simp only [D.py, PyData.shown]
  have c2 : (": " : Str).length = 2 := by decide +kernel
  have tl : ∀ t, t ∈ kvs.map (fun kv => (keyPy kv.1).shown ++ ": " ++ kv.2.py.shown) → t.length ≤ n + n + 2 := fun t ht => by
    obtain ⟨d, hd, rfl⟩ := List.mem_map.mp ht
    obtain ⟨a, b⟩ := h d hd
    rw [Str.length_append, Str.length_append, c2]
    have := a.len
    have := b.len
    omega
  have to : ∀ t, t ∈ kvs.map (fun kv => (keyPy kv.1).shown ++ ": " ++ kv.2.py.shown) → okS t := fun t ht => by
    obtain ⟨d, hd, rfl⟩ := List.mem_map.mp ht
    obtain ⟨a, b⟩ := h d hd
    exact okS_append (okS_append a.ok (by decide +kernel : PyData.strOk ": " = true)) b.ok
  refine ⟨?_, ?_, ?_, ?_, ?_⟩
  · unfold D.isPy; exact g1
  · unfold D.py PyData.showable; exact g2
  · unfold D.py PyData.depth; omega
  · rw [es]
    unfold dictText
    rw [Str.length_append, Str.length_append, show ("{" : Str).length = 1 by decide +kernel, show ("}" : Str).length = 1 by decide +kernel]
    have := join_le tl
    rw [List.length_map, show n + n + 2 + 2 = n + n + 4 by omega] at this
    omega
  · rw [es]
    unfold dictText
    exact okS_append (okS_append (by decide +kernel : PyData.strOk "{" = true) (join_okS to)) (by decide +kernel : PyData.strOk "}" = true)
end DL

set_option Elab.async false
set_option linter.all false
set_option maxRecDepth 100000
set_option maxHeartbeats 4000000
/-! DL13: [::-1]; sorted(set(..)); three comparisons in a row; tuple(range(..)). -/
namespace DL
open PySem PySem.Spec PyProof.Rows L2
variable [TabsC]
section
variable {prog : Program} {w : World} {A : Around} {E : Value → Shared → Prop} {s : Shared}
theorem adjust_back (n : Nat) : Builtin.Slice.sliceAdjust none none (-1) (n : Int) = ((n : Int) - 1, -1) := by
  unfold Builtin.Slice.sliceAdjust
  simp
theorem places_back (n : Nat) : Builtin.Slice.slicePlaces ((n : Int) - 1) (-1) (-1) = n := by
  unfold Builtin.Slice.slicePlaces
  simp only [show ¬ ((-1 : Int) > 0) by decide, if_false]
  split
  · have e : ((n : Int) - 1 - -1 - 1) / (- -1) + 1 = n := by
      rw [show (- -1 : Int) = 1 by decide, Int.ediv_one]; omega
    rw [e]; rfl
  · rename_i h
    have : n = 0 := by omega
    subst this; rfl
theorem fm_congr {α β : Type} {f g : α → Option β} : ∀ {l : List α}, (∀ x, x ∈ l → f x = g x) → l.filterMap f = l.filterMap g
  | [], _ => rfl
  | x :: l, h => by
    rw [List.filterMap_cons, List.filterMap_cons, h x List.mem_cons_self, fm_congr fun y hy => h y (List.mem_cons_of_mem _ hy)]
theorem pick_back (xs : Array Value) : ((List.range xs.size).filterMap fun (k : Nat) => xs[(((xs.size : Int) - 1) + (k : Int) * (-1)).toNat]?).toArray = xs.toList.reverse.toArray := by
  have e : (fun (k : Nat) => xs[(((xs.size : Int) - 1) + (k : Int) * (-1)).toNat]?) = fun (k : Nat) => xs[(((xs.size : Int) - 1) - (k : Int)).toNat]? := by
    funext k
    congr 2
    omega
  rw [e]
  have h : ∀ k ∈ List.range xs.size, xs[(((xs.size : Int) - 1) - (k : Int)).toNat]? = xs[xs.size - 1 - k]? := fun k hk => by
    have := List.mem_range.mp hk
    congr 1
    omega
  rw [fm_congr h]
  have g := PySem.W.krv_all xs
  have r := PySem.W.krv_range xs.size
  have : (List.range xs.size).filterMap (fun k => xs[xs.size - 1 - k]?) = ((List.range xs.size).map (fun k => xs.size - 1 - k)).filterMap (xs[·]?) := by
    rw [List.filterMap_map]; rfl
  rw [this, r, List.filterMap_reverse, g]
theorem applied_back {sl : Addr} {vl vu vs : Value} {n : Nat} {Q : Int × Int × Nat → Shared → Prop} (hs : s.heap.IsSliceOf sl vl vu vs) (pl : IsPart vl none) (pu : IsPart vu none) (ps : IsPart vs (some (-1)))
    (h : Q (((n : Int) - 1), -1, n) s) : wpAny (model prog w) A (Builtin.Slice.sliceApplied (.ref sl) (pure (n : Int))) Q E s := by
  obtain ⟨os, hos, hcs, hds⟩ := id hs
  unfold Builtin.Slice.sliceApplied Builtin.Slice.sliceFields
  refine wpAny_bind (wpAny_bind (wpAny_field hos hds (x := vl) rfl (wpAny_bind (wpAny_field hos hds (x := vu) rfl (wpAny_bind (wpAny_field hos hds (x := vs) rfl (wpAny_pure ?_)))))))
  refine wpAny_bind (HT.slicePart_ ps ?_)
  show wpAny _ _ (if ((-1 : Int) == 0) = true then _ else _) _ _ s
  rw [if_neg (by decide)]
  refine wpAny_bind (HT.slicePart_ pl (wpAny_bind (HT.slicePart_ pu (wpAny_bind (wpAny_pure ?_)))))
  show wpAny _ _ (match Builtin.Slice.sliceAdjust none none (-1) (n : Int) with | (lo, hi) => pure (lo, (-1 : Int), Builtin.Slice.slicePlaces lo hi (-1))) _ _ s
  rw [adjust_back]
  show wpAny _ _ (pure (((n : Int) - 1), (-1 : Int), Builtin.Slice.slicePlaces ((n : Int) - 1) (-1) (-1))) _ _ s
  rw [places_back]
  exact wpAny_pure h
theorem getItem_tup_back {t sl : Addr} {items : Array Value} {vl vu vs : Value} {Q : Value → Shared → Prop} (ht : IsTup s.heap t items) (hs : s.heap.IsSliceOf sl vl vu vs) (pl : IsPart vl none) (pu : IsPart vu none) (ps : IsPart vs (some (-1)))
    (h : Q (.ref s.heap.objs.size) { s with heap := s.heap.push { cls := .type "tuple", data := .seq items.toList.reverse.toArray } }) (hsz : items.size ≤ sizeLine) : wpAny (model prog w) A (getItem (.ref t) (.ref sl)) Q E s := by
  have fits : sizeOk (.seq items.toList.reverse.toArray) := by
    show items.toList.reverse.toArray.size ≤ sizeLine
    rw [List.size_toArray, List.length_reverse, Array.length_toList]
    exact hsz
  obtain ⟨os, hos, hcs, hds⟩ := id hs
  have isSlice : s.TypeIs (.ref sl) "slice" := ⟨os, hos, hcs⟩
  unfold getItem
  try with_reducible refine wpAny_holding ?_
  first | refine wpAny_bind (wpAny_pure ?_) | skip
  refine wpAny_bind (wpAny_sequenceKey ht.typeIs (by decide) (wpAny_bind (wpAny_callSpecial?_slot (name := Str.ofString "__getitem__") ht.typeIs PyProof.Rows.slot_tuple_getitem (wpAny_call_entry PyProof.Rows.slot_tuple_getitem ht.typeIs entry_tuple_getitem ?_ (args_tuple_getitem _ _)))))
  show wpAny _ _ (Builtin.Tuple.tupleItemsOf (.ref t) >>= _) _ _ s
  refine wpAny_bind (tupleItemsOf_ ht (wpAny_bind (wpAny_typeOf isSlice ?_)))
  rw [if_pos (by decide)]
  refine wpAny_bind (applied_back hs pl pu ps ?_)
  show wpAny _ _ (if ((((items.size : Int) - 1) == 0 && (-1 : Int) == 1 && items.size == items.size) = true) then _ else _) _ _ s
  rw [if_neg (by rw [show ((-1 : Int) == 1) = false by decide, Bool.and_false, Bool.false_and]; decide), pick_back]
  first
    | exact wpAny_bind (m := Builtin.Tuple.tupleExact _) (wpAny_newObj_type (wpAny_pure ⟨_, rfl, wpAny_pure h⟩) fits)
    | exact wpAny_bind (m := Builtin.Tuple.tupleExact _) (wpAny_newObj_type (wpAny_bind (wpAny_pure (wpAny_pure ⟨_, rfl, wpAny_pure h⟩))) fits)
    | exact wpAny_bind (wpAny_bind (m := Builtin.Tuple.tupleExact _) (wpAny_newObj_type (wpAny_pure (wpAny_pure ⟨_, rfl, wpAny_pure h⟩)) fits))
    | exact wpAny_bind (wpAny_bind (m := Builtin.Tuple.tupleExact _) (wpAny_newObj_type (wpAny_pure ⟨_, rfl, wpAny_pure h⟩) fits))
end
section
variable {X : Cx} {W : WX} {a b c e e2 o : Expr} {es : List Expr} {ba bb : Bool} {ma mb : TM} {la : LM} {pos p : Pos} {x y : Str} {k : Nat}
/-! ### e[::-1] -/
def tBack (K : PySem.W.Frag) (te : TE) : TE := fun σ H Q => te σ H fun x H1 => ∃ a xs, x = .ref a ∧ ((SqL K H1 a xs ∧ ∀ p, H1 p = none → Q (.ref p) (upd H1 p (.lst xs.reverse))) ∨ (SqT K H1 a xs ∧ ∀ p, H1 p = none → Q (.ref p) (upd H1 p (.tup xs.reverse))))
theorem pe_back {te : TE} {k : Nat} {p1 p2 p3 pos : Pos} (he : PE X e te) : PE X (.Subscript e (.Slice none none (some (.UnaryOp .USub (.Constant (.int 1) k p1) p2)) p3) pos) (tBack X.K te) := by
  refine ⟨fun pins s σ H Q I h => Subscript_ (thn (he.run pins s σ H _ I h) fun v s1 ⟨x, H1, I1, r1, a, xs, ex, q⟩ => ?_)⟩
  subst ex
  cases r1
  have hst : PO X (some (.UnaryOp .USub (.Constant (.int 1) k p1) p2)) (tPart (tUn (rU fun i => .int (-i)) (tC (.int 1)))) := po_some (pe_un un_neg pe_int)
  refine wpAny_Slice (thn (po_none.run pins s1 σ H1 (fun o H2 => o = none ∧ H2 = H1) I1 ⟨rfl, rfl⟩) fun vl s2 ⟨l, H2, I2, pl, el, e2⟩ => ?_)
  subst el e2
  refine thn (po_none.run pins s2 σ H2 (fun o H3 => o = none ∧ H3 = H2) I2 ⟨rfl, rfl⟩) fun vu s3 ⟨u, H3, I3, pu, eu, e3⟩ => ?_
  subst eu e3
  refine thn (hst.run pins s3 σ H3 (fun o H4 => o = some (-1) ∧ H4 = H3) I3 ⟨1, rfl, -1, rfl, rfl, rfl⟩) fun vs s4 ⟨o, H4, I4, ps, eo, e4⟩ => ?_
  subst eo e4
  have I5 : Inv X pins σ H4 { s4 with heap := s4.heap.push { cls := .type "slice", data := .fields #[vl, vu, vs] } } := I4.kept (t' := s4.toks) fun b ob q => Heap.get?_push_of_some _ q
  show wpAny (model X.prog X.w) X.A (subscriptTail e (.Slice none none (some (.UnaryOp .USub (.Constant (.int 1) k p1) p2)) p3) (.ref a) (.ref s4.heap.objs.size)) (EP X pins σ Q) X.xe { s4 with heap := s4.heap.push { cls := .type "slice", data := .fields #[vl, vu, vs] } }
  rcases q with ⟨hx, q⟩ | ⟨hx, q⟩
  · obtain ⟨its, r, ht, hz⟩ := I5.list hx
    have hlen := r.length
    refine tail_any (ops := [.ref a, .ref s4.heap.objs.size]) ht.isList.typeIs (PySem.slot_list_getitem.lookup) ?_ (by with_unfolding_all rfl)
    refine wpAny_getItem_list_slice ht.isList (Heap.IsSliceOf.new _ vl vu vs) pl pu ps (by decide) ?_ (by rw [List.size_toArray]; omega)
    rw [PySem.W.krv_pick]
    exact ⟨.ref _, _, I5.laid (t' := s4.toks) (o := .lst xs.reverse) (fun b ob q => Heap.get?_push_of_some _ q) (Nat.le_refl _) ⟨by rw [List.length_reverse]; exact hz, _, 0, r.reverse, Heap.get?_push_size _ rfl⟩, rfl, q _ (I5.hok.fresh (Nat.le_refl _))⟩
  · obtain ⟨its, r, ht, hz⟩ := I5.tuple hx
    have hlen := r.length
    refine tail_any (ops := [.ref a, .ref s4.heap.objs.size]) ht.typeIs (PyProof.Rows.slot_tuple_getitem.lookup) ?_ (by with_unfolding_all rfl)
    refine getItem_tup_back ht (Heap.IsSliceOf.new _ vl vu vs) pl pu ps ?_ (by rw [List.size_toArray]; omega)
    exact ⟨.ref _, _, I5.laid (t' := s4.toks) (o := .tup xs.reverse) (fun b ob q => Heap.get?_push_of_some _ q) (Nat.le_refl _) ⟨by rw [List.length_reverse]; exact hz, _, r.reverse, IsTup.new _ _⟩, rfl, q _ (I5.hok.fresh (Nat.le_refl _))⟩
def mRev (ma : TM) : TM := fun δ Q E => ma δ (fun d => (∃ ds, d = .list ds ∧ Q (.list ds.reverse)) ∨ (∃ ds, d = .tup ds ∧ Q (.tup ds.reverse))) E
theorem de_rev {k : Nat} {p1 p2 p3 pos : Pos} (he : DE X W e ba ma) : DE X W (.Subscript e (.Slice none none (some (.UnaryOp .USub (.Constant (.int 1) k p1) p2)) p3) pos) false (mRev ma) :=
  PE.imp (pe_back he) fun σ H Q ⟨F, own, δ, P, EK, A, m, q⟩ => ⟨F, own, δ, _, EK, A, m, fun d v H1 m1 s1 r1 => by
    have t3 := (A.env.grow s1).trk
    rcases m1 with ⟨ds, rfl, m1⟩ | ⟨ds, rfl, m1⟩
    · obtain ⟨a, xs, rfl, h1, h2, h3⟩ := r1.list
      exact ⟨a, xs, rfl, .inl ⟨.of h1, fun p hp => q _ _ _ m1 (s1.trans (same_upd hp)) (.cl (new_list t3 hp (by rw [List.length_reverse]; exact h2) h3.reverse))⟩⟩
    · obtain ⟨a, xs, rfl, h1, h2, h3⟩ := r1.tup
      exact ⟨a, xs, rfl, .inr ⟨h1, fun p hp => q _ _ _ m1 (s1.trans (same_upd hp)) (.cl (new_tup t3 hp (by rw [List.length_reverse]; exact h2) h3.reverse))⟩⟩⟩
end
end DL

set_option Elab.async false
set_option linter.all false
set_option maxRecDepth 100000
set_option maxHeartbeats 4000000
/-! DL14: set(list of ints), sorted(set(..)). -/
namespace DL
open PySem PySem.Spec PyProof.Rows L2
variable [TabsC]
section
variable {P : Program} {w : World} {A : Around} {E : Value → Shared → Prop} {s : Shared}
/-- a set as it is made -/
abbrev bare (w : World) : Obj := { cls := .type "set", dict := none, data := .set #[] 0 (.fresh 0 0 (!w.params.followText "set-order")) }
theorem set_of_list {l : Addr} {items : Array Value} (ns : List Int) {Q : Value → Shared → Prop} (calm : A.handled = none) (isl : s.heap.IsList l items) (iar : IntsAre items.toList ns) (room : ns.length + 1 < scanBound)
    (done : ∀ (g : Heap) (tk c : Nat), SetR w g s.heap.objs.size (fun j => decide (j ∈ ns)) c → c ≤ ns.length → (∀ b o, s.heap.get? b = some o → g.get? b = some o) → Q (.ref s.heap.objs.size) { s with heap := g, toks := tk }) :
    wpAny (model P w) A (call (.type "set") [.ref l]) Q E s := by
  have size : items.size = ns.length := by rw [← Array.length_toList]; exact IntsAre.length iar
  obtain ⟨c, tl, mro⟩ := F.called_set.mro
  have made := F.called_set.made
  have sub := F.called_set.sub
  refine wpAny_call (codeAny_of_tree ?_)
  show wpAny _ _ (callAny (.type "set") _) _ _ _
  refine wpAny_pure ⟨Code.quiet_builtin _ (by decide +kernel), codeAny_builtin F.entry_type_call ?_⟩
  rw [Around.under_plain (weight_type_call_type "set" [.ref l] []) rfl]
  have nt := F.called_set.notType
  have cc := F.called_set.canCreate
  have ct := F.typeCall_set_1 (.ref l)
  repeat (any_goals (first | assumption | wp_step))
  refine codeAny_mono (code_set_led1 (.ref l) (E := E) (Q₁ := fun obj s₁ => obj = .ref s.heap.objs.size ∧ s₁ = { s with heap := s.heap.push (bare w) }) ⟨rfl, rfl⟩) fun r s₁ made1 => ?_
  match r, made1 with
  | .error e, made1 => exact made1
  | .ok (.ret obj), made1 =>
    obtain ⟨rfl, rfl⟩ := made1
    have at0 : (s.heap.push (bare w)).get? s.heap.objs.size = some (bare w) := Heap.get?_push_size _ rfl
    have ty0 : Shared.TypeIs { s with heap := s.heap.push (bare w) } (.ref s.heap.objs.size) "set" := ⟨_, at0, rfl⟩
    have lk0 := F.called_set.init.lookup
    have bd0 := F.called_set.init.bind (.ref s.heap.objs.size)
    repeat (any_goals (first | assumption | wp_step))
    refine codeAny_mono (codeAny_call_builtin (R := wants (fun r s₂ => r = .none ∧ ∃ g tk c, s₂ = { s with heap := g, toks := tk } ∧ SetR w g s.heap.objs.size (fun j => decide (j ∈ ns)) c ∧ c ≤ ns.length ∧ ∀ b o, s.heap.get? b = some o → g.get? b = some o) E) F.called_set.init.plain F.entry_set_init (check_set_init_1 ty0 ?_)) fun r₂ s₂ made2 => ?_
    · obtain ⟨⟨ocls, odict, odata, oslots⟩, ol, hcl, nl, hdl⟩ := isl
      simp only at hcl hdl
      subst hcl; subst hdl
      have ol' : (s.heap.push (bare w)).get? l = some { cls := .type "list", dict := odict, data := .seq items nl, slots := oslots } := Heap.get?_push_of_some _ ol
      have no1 := F.sub_list_set
      have no2 := F.sub_list_frozenset
      have no3 : (Value.type "list" == Value.type "dict") = false := by decide
      have isl' : (s.heap.push (bare w)).IsList l items := ⟨_, ol', rfl, nl, rfl⟩
      unfold Builtin.«set.__init__» noKeywords Builtin.Frozenset.updateFrom
      generalize same : pyIter = PI
      wp_walk
      subst same
      refine wpAny_pyIter_list isl' (wpAny_bind (wpAny_runValue ?_))
      have lt : l < s.heap.objs.size := Heap.lt_size ol
      have sz1 : (s.heap.push (bare w)).objs.size = s.heap.objs.size + 1 := Heap.size_push ..
      have ne1 : l ≠ (s.heap.push (bare w)).objs.size := by rw [sz1]; exact Nat.ne_of_lt (Nat.lt_succ_of_lt lt)
      have nin : s.heap.objs.size ∉ [(s.heap.push (bare w)).objs.size, l] := by
        rw [sz1]
        simp only [List.mem_cons, List.not_mem_nil, or_false, not_or]
        exact And.intro (Nat.ne_of_lt (Nat.lt_succ_self _)) (Nat.ne_of_gt lt)
      have each : ∀ (i : Nat) (v : Value), items[i]? = some v → ∃ k t, ns[i]? = some k ∧ v = .int k t := fun i v hv => by
        have hi : i < ns.length := by rw [← size]; exact (Array.getElem?_eq_some_iff.mp hv).1
        obtain ⟨t, e⟩ := PyProof.Rows.IntsAre.int_at iar i v (by rw [Array.getElem?_toList]; exact hv)
        refine ⟨ns[i], t, List.getElem?_eq_getElem hi, ?_⟩
        rw [e, List.getD_eq_getElem?_getD, List.getElem?_eq_getElem hi] <;> rfl
      have calm3 : A.in1.in1.in1.handled = none := by simp [calm]
      refine set_update_ints ((Walks.list calm3 _ l ne1 items).toS) s.heap.objs.size nin ns size room each (items.size - 0) 0 _ (by omega) (Nat.zero_le _) ⟨⟨_, Heap.get?_push_size _ rfl, rfl, rfl⟩, (isl'.push _)⟩ ?start ?fin
      case start =>
        have at1 : ((s.heap.push (bare w)).push { cls := .type "list_iterator", data := .fields #[.ref l, .int 0 0] }).get? s.heap.objs.size = some (bare w) := Heap.get?_push_of_some _ at0
        exact ⟨0, Nat.le_refl 0, setR_new_at at1⟩
      case fin =>
        intro s' c' mv le R
        obtain ⟨g, gens', drawn', tk', os'⟩ := s'
        have eg : gens' = s.gens := mv.gens
        have ed : drawn' = s.drawn := mv.drawn
        have eo : os' = s.os := mv.os
        subst eg ed eo
        show wpAny _ _ _ _ _ _
        refine wpAny_pure ?_
        show wpAny _ _ (ret Value.none) _ _ _
        rw [size] at le
        refine wpAny_pure ⟨rfl, g, tk', c', rfl, R, le, fun b o e => ?_⟩
        have hb := Heap.lt_size e
        exact mv.heap b o (by
          rw [sz1]
          simp only [List.mem_cons, List.not_mem_nil, or_false, not_or]
          exact And.intro (Nat.ne_of_lt hb) (Nat.ne_of_lt (Nat.lt_succ_of_lt hb))) (Heap.get?_push_of_some _ (Heap.get?_push_of_some _ e))
    · match r₂, made2 with
      | .error e, made2 => exact made2
      | .ok (.ret r), made2 =>
        obtain ⟨rfl, g, tk, c', rfl, R, le, kept⟩ := made2
        repeat (any_goals (first | assumption | wp_step))
        exact done _ _ _ R le kept
end
end DL

set_option Elab.async false
set_option linter.all false
set_option maxRecDepth 100000
set_option maxHeartbeats 4000000
/-! DL15: sorted(set(..)) over data. -/
namespace DL
open PySem PySem.Spec PyProof.Rows L2
variable [TabsC]
section
variable {X : Cx} {W : WX} {a b c e e2 o : Expr} {es : List Expr} {ba bb : Bool} {ma mb mc : TM} {la : LM} {pos p p2 pos2 : Pos} {x y : Str} {k : Nat}
def rSetL (K : PySem.W.Frag) (w : World) : List V → Hp → VK → Prop := fun xs H Q => ∃ (a : Addr) (ns : List Int), xs = [V.ref a] ∧ (SqL K H a (ns.map V.int) ∨ SqT K H a (ns.map V.int)) ∧ ns.length < 64 ∧
  ∀ (p : Addr) (c : Nat), H p = none → c ≤ ns.length → Q (.ref p) (upd H p (SetO w p (fun j => decide (j ∈ ns)) c))
theorem cr_setL (hc : X.calm = true) : CallR X (.type "set") (rSetL X.K X.w) := by
  intro pins s σ H xs us Q I r h
  obtain ⟨a, ns, rfl, hs, hn, q⟩ := h
  rw [Vals.ref1 r]
  have room : ns.length + 1 < scanBound := by unfold scanBound; omega
  rcases hs with hs | hs
  · obtain ⟨its, rv, ht, hz⟩ := I.list hs
    refine set_of_list ns (I.ok.hd hc) ht.isList (intsAre_of rv) room fun g tk c R le kept => ?_
    exact ⟨.ref _, _, I.laid (t' := tk) kept (Nat.le_refl _) (setO_new R), rfl, q _ c (I.hok.fresh (Nat.le_refl _)) le⟩
  · obtain ⟨its, rv, ht, hz⟩ := I.tuple hs
    refine call_set_tupI ns (I.ok.hd hc) (show s.heap.IsTuple a its.toArray from ht) (intsAre_of rv) room fun g tk c R le kept => ?_
    exact ⟨.ref _, _, I.laid (t' := tk) kept (Nat.le_refl _) (setO_new R), rfl, q _ c (I.hok.fresh (Nat.le_refl _)) le⟩
def fSortSet (ds : List D) (Q : D → Prop) : Prop := ∃ ns : List Int, (ds = [.list (ns.map .int)] ∨ ds = [.tup (ns.map .int)]) ∧ ns.length < 64 ∧ ∀ ms : List Int, ms.Pairwise (· < ·) → (∀ k : Int, k ∈ ms ↔ k ∈ ns) → ms.length ≤ ns.length → Q (.list (ms.map .int))
theorem link_sortSet : LinkF X.K (fun vs H Q => rSetL X.K X.w vs H fun p H2 => rSortedSet X.w [p] H2 Q) fSortSet := by
  intro fo ls H vs ds P Q ht r ⟨ns, e, hl, h⟩ q
  have key : ∀ a : Addr, (SqL X.K H a (ns.map V.int) ∨ SqT X.K H a (ns.map V.int)) → rSetL X.K X.w [.ref a] H fun p H2 => rSortedSet X.w [p] H2 Q := fun a ha =>
    ⟨a, ns, rfl, ha, hl, fun p c hp hc => ⟨p, _, c, rfl, upd_same, by omega, fun ms l m1 m2 m3 hl' => by
      have hlp : l ≠ p := fun z => by
        rw [z] at hl'
        rw [upd_same] at hl'
        cases hl'
      have hl0 : H l = none := by rw [upd_ne hlp] at hl'; exact hl'
      exact q _ _ _ (h ms m1 (fun k => by rw [m2 k]; simp) (by omega)) hl0 ((same_upd hp).trans (same_upd hl')) (.l upd_same (by rw [List.length_map, m3, sizeLine_eq]; omega) (Reps.ints ms))⟩⟩
  rcases e with rfl | rfl
  · obtain ⟨v, rfl, rr⟩ := r.one
    obtain ⟨a, xs, rfl, h1, h2, h3⟩ := rr.list
    have ex := h3.of_ints
    subst ex
    exact key a (.inl (.of h1))
  · obtain ⟨v, rfl, rr⟩ := r.one
    obtain ⟨a, xs, rfl, h1, h2, h3⟩ := rr.tup
    have ex := h3.of_ints
    subst ex
    exact key a (.inr h1)
theorem df_sortSet (hc : X.calm = true) (hg : Gl X "sorted") (hm : X.mg "sorted" = none) (hv : bootBuiltins "sorted" = some (.builtin "sorted")) (hg2 : Gl X "set") (hm2 : X.mg "set" = none) (hv2 : bootBuiltins "set" = some (.type "set")) (ha : DA X W [e] ba la)
    (he : starEach [e] X.env = [(false, eval e X.env)] := by rfl) (he2 : starEach [.Call (.Name "set" p2) [e] [] pos2] X.env = [(false, eval (.Call (.Name "set" p2) [e] [] pos2) X.env)] := by rfl) :
    DF X W (.Call (.Name "sorted" p) [.Call (.Name "set" p2) [e] [] pos2] [] pos) (mB fSortSet la) :=
  PE.imp (pe_callB (cr_sortedSet hc) hg hm hv (pa_cons (pe_callTy (cr_setL hc) hg2 hm2 hv2 ha (by decide) (by decide) he (by rfl)) pa_nil he2) (by decide) (by decide) he2 (by rfl)) fun _ _ _ h => link_f (link_sortSet) h
/-! ### a op b op c op d -/
def tChain3 (r1 r2 r3 : R2) (ta tb tc td : TE) : TE := fun σ H Q => ta σ H fun x H1 => tb σ H1 fun y H2 => r1 x y H2 fun z1 H3 => ∃ k, z1 = .bl k ∧
  (if k = true then tc σ H3 fun u H4 => r2 y u H4 fun z2 H5 => ∃ k2, z2 = .bl k2 ∧ (if k2 = true then td σ H5 fun v H6 => r3 u v H6 Q else Q (.bl false) H5) else Q (.bl false) H3)
theorem pe_chain3 {d : Expr} {td : TE} {ta tb tc : TE} {op1 op2 op3 : CmpOp} {r1 r2 r3 : R2} (h1 : OpR X (compareOp op1) r1) (h2 : OpR X (compareOp op2) r2) (h3 : OpR X (compareOp op3) r3) (ha : PE X a ta) (hb : PE X b tb) (hc : PE X c tc) (hd : PE X d td)
    (hm : lastMarks [op1, op2, op3] [b, c, d] = false := by with_unfolding_all rfl) : PE X (.Compare a [op1, op2, op3] [b, c, d] pos) (tChain3 r1 r2 r3 ta tb tc td) := by
  refine ⟨fun pins s σ H Q I h => ?_⟩
  refine Compare_chain (thn (ha.run pins s σ H _ I h) fun v s1 ⟨x, H1, I1, e1, q1⟩ => chain_link (thn (hb.run pins s1 σ H1 _ I1 q1) fun u s2 ⟨y, H2, I2, e2, q2⟩ =>
    thn (h1 pins s2 σ H2 x y v u _ I2 e1 e2 q2) fun t s3 ⟨z, H3, I3, e3, k, ez, q3⟩ => ?_)) hm
  subst ez
  cases e3
  refine wpAny_truthy_bool ?_
  cases k with
  | false => exact ite_ff ⟨.bl false, H3, I3, rfl, q3⟩
  | true =>
    refine ite_tt (chain_link (thn (hc.run pins s3 σ H3 _ I3 q3) fun u' s4 ⟨y', H4, I4, e4, q4⟩ => thn (h2 pins s4 σ H4 y y' u u' _ I4 e2 e4 q4) fun t' s5 ⟨z', H5, I5, e5, k2, ez, q5⟩ => ?_))
    subst ez
    cases e5
    refine wpAny_truthy_bool ?_
    cases k2 with
    | false => exact ite_ff ⟨.bl false, H5, I5, rfl, q5⟩
    | true => exact ite_tt (chain_last (thn (hd.run pins s5 σ H5 _ I5 q5) fun w' s6 ⟨z6, H6, I6, e6, q6⟩ => h3 pins s6 σ H6 y' z6 u' w' Q I6 e4 e6 q6))
def mChain3 (f g h : D → D → (Bool → Prop) → Prop) (ma mb mc md : TM) : TM := fun δ Q E => ma δ (fun x => mb δ (fun y => f x y fun c => if c = true then mc δ (fun z => g y z fun c' => if c' = true then md δ (fun v => h z v fun c => Q (.bool c)) E else Q (.bool false)) E else Q (.bool false)) E) E
theorem de_chain3 {d : Expr} {md : TM} {bc bd : Bool} {op1 op2 op3 : CmpOp} {r1 r2 r3 : R2} {f g h : D → D → (Bool → Prop) → Prop} (h1 : OpR X (compareOp op1) r1) (l1 : LinkCmp X.K r1 f) (h2 : OpR X (compareOp op2) r2) (l2 : LinkCmp X.K r2 g) (h3 : OpR X (compareOp op3) r3) (l3 : LinkCmp X.K r3 h)
    (ha : DE X W a ba ma) (hb : DE X W b bb mb) (hc : DE X W c bc mc) (hd : DE X W d bd md) (hm : lastMarks [op1, op2, op3] [b, c, d] = false := by with_unfolding_all rfl) : DE X W (.Compare a [op1, op2, op3] [b, c, d] pos) false (mChain3 f g h ma mb mc md) :=
  PE.imp (pe_chain3 h1 h2 h3 ha hb hc hd hm) fun σ H Q ⟨F, own, δ, P, EK, A, m, q⟩ => by
    refine ⟨F, own, δ, _, EK, A, m, fun dx x H1 m1 s1 r1 => ?_⟩
    refine ⟨F, own, δ, _, EK, A.on s1, m1, fun dy y H2 m2 s2 r2 => ?_⟩
    refine l1 _ _ H2 x y dx dy _ _ (r1.up.mono s2) r2.up m2 fun k p => ⟨k, rfl, ?_⟩
    cases k with
    | false => exact iteF (q _ _ H2 (by simpa using p) (s1.trans s2) (.cl (.bool false)))
    | true =>
      refine iteT ⟨F, own, δ, _, EK, A.on (s1.trans s2), (by simpa using p), fun dz z H3 m3 s3 r3 => ?_⟩
      refine l2 _ _ H3 y z dy dz _ _ (r2.up.mono s3) r3.up m3 fun k' p' => ⟨k', rfl, ?_⟩
      cases k' with
      | false => exact iteF (q _ _ H3 (by simpa using p') ((s1.trans s2).trans s3) (.cl (.bool false)))
      | true =>
        refine iteT ⟨F, own, δ, _, EK, A.on ((s1.trans s2).trans s3), (by simpa using p'), fun dv v H4 m4 s4 r4 => ?_⟩
        exact l3 _ _ H4 z v dz dv _ _ (r3.up.mono s4) r4.up m4 fun k'' p'' => q _ _ H4 p'' (((s1.trans s2).trans s3).trans s4) (.cl (.bool k''))
/-! ### tuple(range(..)) -/
def mTupRg1 (ma : TM) : TM := fun δ Q E => ma δ (fun d => ∃ j : Int, d = .int j ∧ RgOk 0 j ∧ Q (.tup (rangeD 0 j.toNat))) E
def mTupRg2 (ma mb : TM) : TM := fun δ Q E => ma δ (fun d => mb δ (fun d' => ∃ i j : Int, d = .int i ∧ d' = .int j ∧ RgOk i j ∧ Q (.tup (rangeD i (j - i).toNat))) E) E
theorem reps_rg {K : PySem.W.Frag} {H : Hp} (i j : Int) : Reps K H (rgV i j) (rangeD i (j - i).toNat) := by
  have e : rangeD i (j - i).toNat = ((List.range (j - i).toNat).map fun k : Nat => i + (k : Int)).map .int := by
    unfold rangeD; rw [List.map_map]; rfl
  have e2 : rgV i j = ((List.range (j - i).toNat).map fun k : Nat => i + (k : Int)).map V.int := by
    unfold rgV; rw [List.map_map]; rfl
  rw [e, e2]
  exact Reps.ints _
theorem rgV_size {i j : Int} (h : RgOk i j) : (rgV i j).length ≤ sizeLine := by
  rw [rgV_length, sizeLine_eq]; have := h.2.2.2.2; omega
theorem de_tupRg1 (hc : X.calm = true) (hg : Gl X "tuple") (hm : X.mg "tuple" = none) (hg2 : Gl X "range") (hm2 : X.mg "range" = none) (ha : DE X W a ba ma) (na : starEach [a] X.env = (false, eval a X.env) :: starEach [] X.env := by rfl)
    (na2 : starEach [.Call (.Name "range" p2) [a] [] pos2] X.env = (false, eval (.Call (.Name "range" p2) [a] [] pos2) X.env) :: starEach [] X.env := by rfl) : DE X W (.Call (.Name "tuple" p) [.Call (.Name "range" p2) [a] [] pos2] [] pos) false (mTupRg1 ma) :=
  PE.imp (pe_tupRg hc hg hm (prg_1 hg2 hm2 ha na) na2) fun σ H Q ⟨F, own, δ, P, EK, A, m, q⟩ => ⟨F, own, δ, _, EK, A, m, fun d v H1 ⟨j, e, ok, m1⟩ s1 r1 => by
    subst e
    refine ⟨j, r1.isInt, ok, fun l hl => q _ _ _ m1 (s1.trans (same_upd hl)) (.cl (new_tup (A.env.grow s1).trk hl (rgV_size ok) ?_))⟩
    have := reps_rg (K := X.K) (H := sub H1 (F.ls0 ++ own)) 0 j
    rwa [Int.sub_zero] at this⟩
theorem de_tupRg2 (hc : X.calm = true) (hg : Gl X "tuple") (hm : X.mg "tuple" = none) (hg2 : Gl X "range") (hm2 : X.mg "range" = none) (ha : DE X W a ba ma) (hb : DE X W b bb mb) (na : starEach [a, b] X.env = (false, eval a X.env) :: starEach [b] X.env := by rfl) (nb : starEach [b] X.env = (false, eval b X.env) :: starEach [] X.env := by rfl) (nb2 : (backTo pos2 (starEach [b] X.env)).any (·.1) = false := by rfl)
    (na2 : starEach [.Call (.Name "range" p2) [a, b] [] pos2] X.env = (false, eval (.Call (.Name "range" p2) [a, b] [] pos2) X.env) :: starEach [] X.env := by rfl) : DE X W (.Call (.Name "tuple" p) [.Call (.Name "range" p2) [a, b] [] pos2] [] pos) false (mTupRg2 ma mb) :=
  PE.imp (pe_tupRg hc hg hm (prg_2 hg2 hm2 ha hb na nb nb2) na2) fun σ H Q ⟨F, own, δ, P, EK, A, m, q⟩ => ⟨F, own, δ, _, EK, A, m, fun d v H1 m1 s1 r1 => ⟨F, own, δ, _, EK, A.on s1, m1, fun d' v' H2 ⟨i, j, e, e', ok, m2⟩ s2 r2 => by
    subst e e'
    exact ⟨i, j, r1.isInt, r2.isInt, ok, fun l hl => q _ _ _ m2 ((s1.trans s2).trans (same_upd hl)) (.cl (new_tup (A.env.grow (s1.trans s2)).trk hl (rgV_size ok) (reps_rg i j)))⟩⟩⟩
end
end DL

set_option Elab.async false
set_option linter.all false
set_option maxRecDepth 100000
set_option maxHeartbeats 4000000
/-! DL16: neighbours in a row of ints; loops that give back early. -/
namespace DL
open PySem PySem.Spec PyProof.Rows L2
variable [TabsC]
/-- a loop that gives back at the first turn that finds -/
theorem forL_find {g : GM} {mb : SM} {k : KD} (I : List DV → Prop) (r : D → Option D) : ∀ {ds : List D} {δ : List DV}, (∀ d, d ∈ ds → ∀ (δ : List DV) (N : List DV → Prop), I δ → (match r d with | none => ∀ δ', I δ' → N δ' | some v => ∀ δ', k.rt δ' v) → g d δ fun δ' => mb δ' { k with nx := N, ct := N, bk := k.nx }) →
    I δ → (∀ v, ds.findSome? r = some v → ∀ δ', k.rt δ' v) → (ds.findSome? r = none → ∀ δ, I δ → k.nx δ) → forL g mb ds δ k
  | [], δ, _, h0, _, hn => hn rfl δ h0
  | d :: ds, δ, h, h0, hs, hn => by
    unfold forL
    refine h d List.mem_cons_self δ _ h0 ?_
    cases e : r d with
    | some v => exact hs v (by rw [List.findSome?_cons, e])
    | none =>
      have e2 : (d :: ds).findSome? r = ds.findSome? r := by rw [List.findSome?_cons, e]
      exact fun δ' h' => forL_find I r (fun d' hd' => h d' (List.mem_cons_of_mem _ hd')) h' (fun v hv => hs v (e2.trans hv)) (fun hv => hn (e2.trans hv))
/-- the neighbours -/
def nb : List Int → List (Int × Int)
  | x :: y :: r => (x, y) :: nb (y :: r)
  | _ => []
def pairD (p : Int × Int) : D := .tup [.int p.1, .int p.2]
theorem cut_tail (xs : List D) : cutL xs (some 1) none = xs.drop 1 := by
  unfold cutL
  rw [show HT.sIx xs.length 0 (some 1) = min 1 xs.length from HT.sIx_nat xs.length 0 1, HT.sIx_none]
  cases xs with
  | nil => rfl
  | cons x r =>
    have e : min 1 (x :: r).length = 1 := by rw [List.length_cons]; omega
    rw [e, List.take_of_length_le]
    rw [List.length_drop]
    omega
theorem zip_nb : ∀ ns : List Int, zipD (ns.map .int) ((ns.map D.int).drop 1) = (nb ns).map pairD
  | [] => rfl
  | [x] => rfl
  | x :: y :: r => by
    have ih := zip_nb (y :: r)
    unfold zipD at ih ⊢
    simp only [List.map_cons, List.drop_succ_cons, List.drop_zero, List.zip_cons_cons, nb] at ih ⊢
    rw [ih]
    rfl
theorem nb_get : ∀ (ns : List Int), nb ns = (List.range (ns.length - 1)).map fun i => (ns.getD i 0, ns.getD (i + 1) 0)
  | [] => rfl
  | [x] => rfl
  | x :: y :: r => by
    have ih := nb_get (y :: r)
    simp only [nb]
    rw [ih]
    simp only [List.length_cons, Nat.add_sub_cancel]
    rw [List.range_succ_eq_map, List.map_cons, List.map_map]
    rfl
theorem atI_ints {ns : List Int} {i : Nat} (h : i < ns.length) : atI (ns.map D.int) (i : Int) = some (.int (ns.getD i 0)) := by
  refine atI_nat ?_
  rw [List.getElem?_map, List.getElem?_eq_getElem h, List.getD_eq_getElem?_getD, List.getElem?_eq_getElem h]
  rfl
theorem atI_last {ns : List Int} (h : ns ≠ []) : atI (ns.map D.int) (-1) = some (.int (ns.getLastD 0)) := by
  unfold atI
  have hl : 0 < ns.length := List.length_pos_iff.mpr h
  rw [List.length_map]
  have : ∀ (xs : List Int), xs ≠ [] → (xs.map D.int)[xs.length - 1]? = some (.int (xs.getLastD 0)) := fun xs hx => by
    rw [List.getElem?_map, ← List.getLast?_eq_getElem?, List.getLastD_eq_getLast?, List.getLast?_eq_some_getLast hx]
    rfl
  have t := this ns h
  rw [show ixN ns.length (-1) = some (ns.length - 1) from by
    unfold ixN
    rw [if_neg (by decide), if_pos (by omega)]
    congr 1
    omega]
  exact t
def gapL (ns : List Int) : Option (Int × Int) := (nb ns).find? fun p => decide (p.2 % p.1 ≠ 0)
def ascL (ns : List Int) : Bool := (nb ns).all fun p => decide (p.1 < p.2)
def gapD : Option (Int × Int) → D
  | none => .none
  | some p => pairD p
def gapR (d : D) : Option D := match d with
  | .tup [.int x, .int y] => if y % x ≠ 0 then some d else none
  | _ => none
theorem find_gap (ns : List Int) : ((nb ns).map pairD).findSome? gapR = (gapL ns).map pairD := by
  unfold gapL
  induction nb ns with
  | nil => rfl
  | cons p r ih =>
    rw [List.map_cons, List.findSome?_cons, List.find?_cons]
    by_cases h : p.2 % p.1 ≠ 0
    · have e : gapR (pairD p) = some (pairD p) := by show (if p.2 % p.1 ≠ 0 then _ else _) = _; rw [if_pos h]
      rw [e, decide_eq_true h]
      rfl
    · have e : gapR (pairD p) = none := by show (if p.2 % p.1 ≠ 0 then _ else _) = _; rw [if_neg h]
      rw [e, decide_eq_false h]
      exact ih
theorem gapD_getD (o : Option (Int × Int)) : (o.map pairD).getD .none = gapD o := by cases o <;> rfl
theorem nb_mem : ∀ {ns : List Int} {p : Int × Int}, p ∈ nb ns → p.1 ∈ ns ∧ p.2 ∈ ns
  | x :: y :: r, p, h => by
    unfold nb at h
    rcases List.mem_cons.mp h with rfl | h
    · simp
    · have := nb_mem h
      exact ⟨List.mem_cons_of_mem _ this.1, List.mem_cons_of_mem _ this.2⟩
theorem Sh_ints {k : Nat} {ns : List Int} (h : ∀ i, i ∈ ns → i.natAbs.log2 < 1920) : Sh (ns.length * 1923 + 3) 1 (.tup (ns.map .int)) := by
  have := Sh_tup (n := 1921) (k := 0) (ds := ns.map .int) fun d hd => by
    obtain ⟨i, hi, rfl⟩ := List.mem_map.mp hd
    exact Sh_int (h i hi)
  rwa [List.length_map] at this
theorem log2_ok {n k : Nat} (hk : 0 < k) (h : n < 2 ^ k) : n.log2 < k := by
  by_cases h0 : n = 0
  · subst h0; exact hk
  · exact (Nat.log2_lt h0).mpr h
theorem log2_lim {i : Int} (h : -(10 ^ 240) < i) (h' : i < 10 ^ 240) : i.natAbs.log2 < 1000 := by
  refine log2_ok (by decide) ?_
  have b : (10 : Int) ^ 240 < 2 ^ 1000 := by decide +kernel
  have : ((i.natAbs : Nat) : Int) < 2 ^ 1000 := by
    generalize (10 : Int) ^ 240 = A at *
    generalize (2 : Int) ^ 1000 = B at *
    omega
  exact_mod_cast this
section
variable {i j : Int} {p q : Bool} {R : Bool → Prop}
theorem e_fEq_i : fEq (.int i) (.int j) R = R (decide (i = j)) := propext ⟨fun h => by have := h.2.2; rw [eqD_int] at this; exact this, fun h => ⟨fineN_int.fine (n := 0) (by decide), fineN_int.fine (n := 0) (by decide), by rw [eqD_int]; exact h⟩⟩
theorem e_fNe_i : fNe (.int i) (.int j) R = R (!decide (i = j)) := propext ⟨fun h => by have := h.2.2; rw [eqD_int] at this; exact this, fun h => ⟨fineN_int.fine (n := 0) (by decide), fineN_int.fine (n := 0) (by decide), by rw [eqD_int]; exact h⟩⟩
theorem beq_dec (p q : Bool) : (p == q) = decide (p = q) := by cases p <;> cases q <;> rfl
theorem e_fEq_b : fEq (.bool p) (.bool q) R = R (decide (p = q)) := propext ⟨fun h => by have := h.2.2; rw [eqD_bool, beq_dec] at this; exact this, fun h => ⟨fineN_bool.fine (n := 0) (by decide), fineN_bool.fine (n := 0) (by decide), by rw [eqD_bool, beq_dec]; exact h⟩⟩
theorem e_fNe_b : fNe (.bool p) (.bool q) R = R (!decide (p = q)) := propext ⟨fun h => by have := h.2.2; rw [eqD_bool, beq_dec] at this; exact this, fun h => ⟨fineN_bool.fine (n := 0) (by decide), fineN_bool.fine (n := 0) (by decide), by rw [eqD_bool, beq_dec]; exact h⟩⟩
end
theorem ex2 {α β : Type} {a : α} {b : β} {P : α → β → Prop} : (∃ x y, (a = x ∧ b = y) ∧ P x y) = P a b := propext ⟨fun ⟨_, _, ⟨e, e'⟩, h⟩ => by subst e e'; exact h, fun h => ⟨a, b, ⟨rfl, rfl⟩, h⟩⟩
theorem nb_append : ∀ {ns : List Int} {z : Int}, ns ≠ [] → nb (ns ++ [z]) = nb ns ++ [(ns.getLastD 0, z)]
  | [x], z, _ => rfl
  | x :: y :: r, z, _ => by
    have ih := nb_append (ns := y :: r) (z := z) (by simp)
    show (x, y) :: nb ((y :: r) ++ [z]) = (x, y) :: nb (y :: r) ++ _
    rw [ih]
    rfl
theorem asc_append {ns : List Int} {z : Int} (h0 : ns ≠ []) (h : ascL ns = true) (hz : ns.getLastD 0 < z) : ascL (ns ++ [z]) = true := by
  unfold ascL at *
  rw [nb_append h0, List.all_append, h]
  simpa using hz
theorem gap_append {ns : List Int} {z : Int} (h0 : ns ≠ []) (h : gapL ns = none) (hz : z % ns.getLastD 0 = 0) : gapL (ns ++ [z]) = none := by
  unfold gapL at *
  rw [nb_append h0, List.find?_append, h]
  rw [Option.none_or, List.find?_cons_of_neg (by intro c; exact of_decide_eq_true c hz)]
  rfl
theorem last_mem {ns : List Int} (h : ns ≠ []) : ns.getLastD 0 ∈ ns := by
  rw [List.getLastD_eq_getLast?, List.getLast?_eq_some_getLast h]
  exact List.getLast_mem h
theorem asc_pair {ns : List Int} (h : ns.Pairwise (· < ·)) : ascL ns = true := by
  unfold ascL
  rw [nb_get, List.all_eq_true]
  intro p hp
  obtain ⟨i, hi, rfl⟩ := List.mem_map.mp hp
  have hi := List.mem_range.mp hi
  have h1 : i + 1 < ns.length := by omega
  have := List.pairwise_iff_getElem.mp h i (i + 1) (by omega) h1 (by omega)
  simp only [decide_eq_true_eq, List.getD_eq_getElem?_getD, List.getElem?_eq_getElem h1, List.getElem?_eq_getElem (show i < ns.length by omega), Option.getD_some]
  exact this
theorem cutL_len {xs : List D} {lo hi : Option Int} : (cutL xs lo hi).length ≤ xs.length := by
  unfold cutL
  rw [List.length_take, List.length_drop]
  omega
theorem cutL_mem {xs : List D} {lo hi : Option Int} {x : D} (h : x ∈ cutL xs lo hi) : x ∈ xs := List.mem_of_mem_drop (List.mem_of_mem_take h)
theorem e_nn : isNoneD .none = true := rfl
theorem e_nt {xs : List D} : isNoneD (.tup xs) = false := rfl
theorem e_nl {xs : List D} : isNoneD (.list xs) = false := rfl
theorem e_ni {i : Int} : isNoneD (.int i) = false := rfl
theorem ite_tail {b : Bool} {A T : Prop} (h : T) (h' : T → b = true → A) : if b = true then A else T := by
  split
  · rename_i hb; exact h' h hb
  · exact h
theorem Sh_gap {o : Option (Int × Int)} (h : ∀ p, o = some p → p.1.natAbs.log2 < 1920 ∧ p.2.natAbs.log2 < 1920) : Sh 4000 1 (gapD o) := by
  cases o with
  | none => exact Sh_none.mono (by decide) (by decide)
  | some p =>
    have := h p rfl
    exact (Sh_tup (n := 1921) (k := 0) (ds := [.int p.1, .int p.2]) (fun d hd => by
      simp only [List.mem_cons, List.not_mem_nil, or_false] at hd
      rcases hd with rfl | rfl
      · exact Sh_int this.1
      · exact Sh_int this.2)).mono (show 2 * 1923 + 3 ≤ 4000 by decide) (by decide)
theorem gap_mem {ns : List Int} {p : Int × Int} (h : gapL ns = some p) : p.1 ∈ ns ∧ p.2 ∈ ns := nb_mem (List.mem_of_find?_eq_some h)
end DL

set_option Elab.async false
set_option linter.all false
set_option maxRecDepth 100000
set_option maxHeartbeats 4000000
/-! DL17: zip of a tuple and a list. -/
namespace DL
open PySem PySem.Spec PyProof.Rows L2
variable [TabsC]
/-- the tuple at a and the list at b as they stand at each turn -/
def ItzM (K : PySem.W.Frag) (a b : Addr) : It :=
  ⟨fun i H => ∃ (xs ys : List V) (x y : V), SqT K H a xs ∧ SqL K H b ys ∧ xs[i]? = some x ∧ ys[i]? = some y,
    fun i H v H' => ∃ T x y, v = .ref T ∧ H T = none ∧ H' = upd H T (.tup [x, y]) ∧ (∀ xs, SqT K H a xs → xs[i]? = some x) ∧ ∀ ys, SqL K H b ys → ys[i]? = some y,
    fun i H => ∃ xs ys : List V, SqT K H a xs ∧ SqL K H b ys ∧ i ≤ xs.length ∧ i ≤ ys.length ∧ (i = xs.length ∨ i = ys.length)⟩
theorem turn_zipM {P : Program} {w : World} {K : PySem.W.Frag} {elts : List Expr} {kk : Nat} {tpos : Pos} {a b z TI TO i1 i2 : Addr} (S : PySem.ZipSep2 z TI TO i1 i2 [i1, a] [i2, b]) (ha : a ≠ i1) (hb : b ≠ i2) :
    Turn P w K (.Tuple elts kk tpos) (ItzM K a b) [z, TI, TO, i1, i2] z (fun i h => IsZip h z TI TO .none ∧ PySem.IsTupOf2 h TI (.ref i1) (.ref i2) ∧ (∃ x y, PySem.IsTupOf2 h TO x y) ∧ h.IsTupleIter i1 a i ∧ h.IsListIter i2 b i) where
  mem := by simp
  obj := fun i h st c hc => by
    obtain ⟨hz, hTI, ⟨x, y, hTO⟩, ⟨o1, e1, _, d1⟩, ⟨o2, e2, _, d2⟩⟩ := st
    have e' : c = z ∨ c = TI ∨ c = TO ∨ c = i1 ∨ c = i2 := by simpa using hc
    rcases e' with rfl | rfl | rfl | rfl | rfl
    · exact ⟨_, hz, fun v q => nomatch q⟩
    · exact ⟨_, hTI, fun v q => nomatch q⟩
    · exact ⟨_, hTO, fun v q => nomatch q⟩
    · exact ⟨o1, e1, fun v q => by rw [d1] at q; cases q⟩
    · exact ⟨o2, e2, fun v q => by rw [d2] at q; cases q⟩
  keep := fun i h h' st k => by
    obtain ⟨hz, hTI, ⟨x, y, hTO⟩, h1, h2⟩ := st
    exact ⟨k z (by simp) _ hz, k TI (by simp) _ hTI, ⟨x, y, k TO (by simp) _ hTO⟩, h1.at fun o q => k i1 (by simp) o q, h2.at fun o q => k i2 (by simp) o q⟩
  item := by
    intro X hP hw hK hc i pins s σ H E I hf st hg
    subst hP hw hK
    obtain ⟨hz, hTI, ⟨x0, y0, hTO⟩, h1, h2⟩ := st
    obtain ⟨xs, ys, x, y, hqx, hqy, hx, hy⟩ := hg
    obtain ⟨its, rv, p, _⟩ := I.tuple hqx
    obtain ⟨its2, rv2, p2, _⟩ := I.list hqy
    obtain ⟨u, hu, ru⟩ := rv.get hx
    obtain ⟨u2, hu2, ru2⟩ := rv2.get hy
    have calm : X.A.in1.handled = none := I.ok.hd hc
    have lt1 : i < its.toArray.size := by rw [List.size_toArray]; exact (List.getElem?_eq_some_iff.mp hu).1
    have lt2 : i < its2.toArray.size := by rw [List.size_toArray]; exact (List.getElem?_eq_some_iff.mp hu2).1
    have below : ∀ c, c ∈ [z, TI, TO, i1, i2] → c < s.heap.objs.size := fun c hcm => by
      have e' : c = z ∨ c = TI ∨ c = TO ∨ c = i1 ∨ c = i2 := by simpa using hcm
      rcases e' with rfl | rfl | rfl | rfl | rfl
      · exact Heap.lt_size hz
      · exact Heap.lt_size hTI
      · exact Heap.lt_size hTO
      · obtain ⟨_, e1, _⟩ := h1; exact Heap.lt_size e1
      · obtain ⟨_, e2, _⟩ := h2; exact Heap.lt_size e2
    have hzl := below z (by simp)
    refine PySem.wpAny_pyNext_zipD2_item S (PySem.Draws.tuple calm i1 a ha its.toArray) (Draws.list calm i2 b hb its2.toArray) hz hTI hTO ⟨h1, (show s.heap.IsTuple a its.toArray from p)⟩ ⟨h2, p2.isList⟩ lt1 lt2 fun x1 x2 h' tk g1 g2 z' TO' st1 st2 hT hsz hk => ?_
    have eu : x1 = u := by
      have : its.toArray[i]? = some u := by simpa using hu
      rw [this] at g1; exact (Option.some.inj g1).symm
    have eu2 : x2 = u2 := by
      have : its2.toArray[i]? = some u2 := by simpa using hu2
      rw [this] at g2; exact (Option.some.inj g2).symm
    subst eu eu2
    refine ⟨_, rfl, wpAny_letOwnedTupleGo_zip (s := { s with heap := h', toks := tk }) z' fun h'' z'' sb => ?_⟩
    have hT2 : h''.get? s.heap.objs.size = some { cls := .type "tuple", data := .seq #[x1, x2] } := (sb.2 _ (Nat.ne_of_gt hzl)).trans hT
    have new : ObjOk X.prog X.w (upd H s.heap.objs.size (.tup [x, y])) h'' s.heap.objs.size (.tup [x, y]) :=
      ⟨by show 2 ≤ sizeLine; decide, [x1, x2], .cons ru (.cons ru2 .nil), ⟨_, hT2, rfl, _, rfl⟩⟩
    have I1 : Inv X pins σ (upd H s.heap.objs.size (.tup [x, y])) { s with heap := h'', toks := tk } :=
      I.turnedNew (t' := tk) (ch := [z, TI, TO, i1, i2]) (fun c o hb q => (sb.2 c (fun q' => hb (by simp [q']))).trans (hk c o (fun q' => hb (by simp [q'])) (fun q' => hb (by simp [q'])) (fun q' => hb (by simp [q'])) (fun q' => hb (by simp [q'])) q)) hf (Nat.le_refl _) new
    refine ⟨.ref s.heap.objs.size, _, I1, rfl, ⟨_, x, y, rfl, I.hok.fresh (Nat.le_refl _), rfl, fun l hl => by rw [I.tuple_inj hl hqx]; exact hx, fun l hl => by rw [I.list_inj hl hqy]; exact hy⟩, ⟨z'', ?_, ⟨x1, x2, ?_⟩, ?_, ?_⟩, fun c hcm => ?_⟩
    · exact (sb.2 _ S.TIz).trans (hk _ _ S.TIz S.TITO S.TIi1 S.TIi2 hTI)
    · exact (sb.2 _ S.TOz).trans TO'
    · exact st1.1.at fun o q => (sb.2 _ (Ne.symm S.zi1)).trans q
    · exact st2.1.at fun o q => (sb.2 _ (Ne.symm S.zi2)).trans q
    · rw [upd_ne (Nat.ne_of_lt (below c hcm))]
      exact (hf c hcm).1
  done := by
    intro X hP hw hK hc i pins s σ H E I hf st hg
    subst hP hw hK
    obtain ⟨hz, hTI, ⟨x0, y0, hTO⟩, h1, h2⟩ := st
    obtain ⟨xs, ys, hqx, hqy, le1, le2, hend⟩ := hg
    obtain ⟨its, rv, p, _⟩ := I.tuple hqx
    obtain ⟨its2, rv2, p2, _⟩ := I.list hqy
    have l1 := rv.length
    have l2 := rv2.length
    have calm : X.A.in1.handled = none := I.ok.hd hc
    have z1 : its.toArray.size = xs.length := by rw [List.size_toArray, l1]
    have z2 : its2.toArray.size = ys.length := by rw [List.size_toArray, l2]
    exact PySem.wpAny_pyNext_zipD2_end S (PySem.Draws.tuple calm i1 a ha its.toArray) (PySem.Draws.list calm i2 b hb its2.toArray) hz hTI hTO ⟨h1, (show s.heap.IsTuple a its.toArray from p)⟩ ⟨h2, p2.isList⟩ (by omega) (by omega) (by omega) fun h' tk hk =>
      ⟨rfl, I.turnedL (t' := tk) (ch := [z, TI, TO, i1, i2]) (fun c o hb q => hk c o (fun q' => hb (by simp [q'])) (fun q' => hb (by simp [q'])) (fun q' => hb (by simp [q'])) (fun q' => hb (by simp [q'])) q) hf⟩
  self := fun A i s Q E st h => wpAny_pyIter_zip st.1 h
def iZipM (K : PySem.W.Frag) (ta : TA) : TI := fun σ H R => ta σ H fun vs H1 => ∃ a b xs ys, vs = [.ref a, .ref b] ∧ SqT K H1 a xs ∧ SqL K H1 b ys ∧ R (ItzM K a b) H1
theorem pi_zipM {X : Cx} {e e2 : Expr} {ta : TA} {p pos tpos : Pos} {elts : List Expr} {kk : Nat} (hg : Gl X "zip") (hm : X.mg "zip" = none) (ha : PA X [e, e2] ta)
    (hs : starEach [e, e2] X.env = (false, eval e X.env) :: starEach [e2] X.env := by rfl) (hpl : (backTo pos (starEach [e2] X.env)).any (·.1) = false := by rfl) :
    PI X (.Tuple elts kk tpos) (.Call (.Name "zip" p) [e, e2] [] pos) (iZipM X.K ta) := by
  refine ⟨fun pins s σ H R I h => ?_⟩
  refine Call_ (ld_blt I hg hm PyProof.Rows.boot_zip (PyProof.Rows.callWith_type1 (thn (ha.run pos pins s σ H _ I h) fun us s1 ⟨vs, H1, I1, r1, a, b, xs, ys, ex, hqx, hqy, q⟩ => ?_) hs hpl))
  subst ex
  obtain ⟨u, v, rfl, ru, rv⟩ : ∃ u v, us = [u, v] ∧ RelV (.ref a) u ∧ RelV (.ref b) v := by
    cases r1 with
    | cons r rr => cases rr with
      | cons r' rr => cases rr; exact ⟨_, _, rfl, r, r'⟩
  cases ru
  cases rv
  obtain ⟨its, rvs, p1, _⟩ := I1.tuple hqx
  obtain ⟨its2, rvs2, p2, _⟩ := I1.list hqy
  have lta : a < s1.heap.objs.size := by obtain ⟨o1, ho1, _⟩ := id p1; exact Heap.lt_size ho1
  have ltb : b < s1.heap.objs.size := p2.lt
  have S := PySem.zip_sep2 (N := s1.heap.objs.size) (fp1 := [a]) (fp2 := [b]) (fun c hc => by rw [List.mem_singleton.mp hc]; exact lta) (fun c hc => by rw [List.mem_singleton.mp hc]; exact ltb)
  refine PySem.zip_begins2 (PySem.begins_tuple a its.toArray) (PySem.begins_list b its2.toArray) (show s1.heap.IsTuple a its.toArray from p1) p2.isList fun h' hz hTI hTO h1 h2 hsz hk => wpAny_pyIter_zip hz ?_
  have I2 : Inv X pins σ H1 { s1 with heap := h' } := I1.kept (t' := s1.toks) hk
  refine ⟨s1.heap.objs.size + 4, [s1.heap.objs.size + 4, s1.heap.objs.size + 2, s1.heap.objs.size + 3, s1.heap.objs.size, s1.heap.objs.size + 1], _, _, H1, rfl, I2, turn_zipM S (Nat.ne_of_lt lta) (Nat.ne_of_lt (Nat.lt_succ_of_lt ltb)), ⟨hz, hTI, ⟨_, _, hTO⟩, ⟨_, h1, rfl, rfl⟩, ⟨_, h2, rfl, rfl⟩⟩, fun c hcm => ?_, q⟩
  have hle : s1.heap.objs.size ≤ c := by
    have e' : c = s1.heap.objs.size + 4 ∨ c = s1.heap.objs.size + 2 ∨ c = s1.heap.objs.size + 3 ∨ c = s1.heap.objs.size ∨ c = s1.heap.objs.size + 1 := by simpa using hcm
    rcases e' with z | z | z | z | z <;> rw [z] <;> first | exact Nat.le_add_right _ _ | exact Nat.le_refl _
  exact I1.fpOk hle (I1.hok.fresh hle)
section
variable {X : Cx} {W : WX} {e e2 : Expr} {ba : Bool} {la : LM} {p pos : Pos}
def mZipM (la : LM) : LM := fun δ P E => la δ (fun ds => ∃ xs ys, ds = [.tup xs, .list ys] ∧ P (zipD xs ys)) E
theorem itok_zipM {K : PySem.W.Frag} {Hg Hb : Hp} {a b : Addr} {xs ys : List V} {ds es : List D} (h : SqT K Hg a xs) (h' : Hg b = some (.lst ys)) (hz : xs.length ≤ sizeLine) (r : Reps K Hb xs ds) (r' : Reps K Hb ys es) : ItOk K (ItzM K a b) Hg Hb (zipD ds es) where
  sz := by rw [zipD_length, ← r.length]; omega
  go := fun i H s hi => by
    rw [zipD_length, ← r.length, ← r'.length] at hi
    exact ⟨xs, ys, xs[i]'(by omega), ys[i]'(by omega), sameT s h, .of (s _ _ h'), List.getElem?_eq_getElem _, List.getElem?_eq_getElem _⟩
  stop := fun i H s hi => by
    rw [zipD_length, ← r.length, ← r'.length] at hi
    exact ⟨xs, ys, sameT s h, .of (s _ _ h'), by omega, by omega, by omega⟩
  yld := fun i H x H' ls s sb ht hi ⟨T, v, v', ev, hT, eH, k1, k2⟩ => by
    subst ev eH
    obtain ⟨d, e1, r1⟩ := r.get (k1 xs (sameT s h))
    obtain ⟨d', e2, r2⟩ := r'.get (k2 ys (.of (s _ _ h')))
    exact ⟨_, zipD_get e1 e2, same_upd hT, new_tup ht hT (by show 2 ≤ sizeLine; rw [sizeLine_eq]; decide) (.cons (r1.mono sb) (.cons (r2.mono sb) .nil))⟩
theorem di_zipM {elts : List Expr} {kk : Nat} {tpos : Pos} (hg : Gl X "zip") (hm : X.mg "zip" = none) (ha : DA X W [e, e2] ba la) (hs : starEach [e, e2] X.env = (false, eval e X.env) :: starEach [e2] X.env := by rfl) (hpl : (backTo pos (starEach [e2] X.env)).any (·.1) = false := by rfl) :
    DI X W (.Tuple elts kk tpos) (.Call (.Name "zip" p) [e, e2] [] pos) ba (mZipM la) :=
  PI.imp (pi_zipM hg hm ha hs hpl) fun σ H R ⟨F, own, δ, P, EK, A, m, q⟩ => ⟨F, own, δ, _, EK, A, m, fun ds vs H1 ⟨xs, ys, ed, pq⟩ s r => by
    subst ed
    obtain ⟨v, v', rfl, r1, r2⟩ := r.twob
    obtain ⟨a, us, rfl, h1, h2, h3⟩ := flo_tup r1
    obtain ⟨b, ws, rfl, g1, g2, g3⟩ := flo_list r2
    exact ⟨a, b, us, ws, rfl, sameT flo_le h1, .of (flo_le _ _ g1), q _ _ H1 pq s (itok_zipM h1 g1 h2 h3 g3)⟩⟩
/-! ### < of tuples of ints -/
def fLtT (x y : D) (Q : Bool → Prop) : Prop := ∃ ns ms : List Int, x = .tup (ns.map .int) ∧ y = .tup (ms.map .int) ∧ Q (HT.lexLt ns ms)
theorem link_ltT : LinkCmp X.K (rLtT X.K) fLtT := by
  intro fo ls H x y dx dy P Q rx ry ⟨ns, ms, e1, e2, h⟩ q
  subst e1 e2
  obtain ⟨a, xs, rfl, h1, h2, h3⟩ := rx.tup
  obtain ⟨b, ys, rfl, g1, g2, g3⟩ := ry.tup
  rw [h3.of_ints] at h1
  rw [g3.of_ints] at g1
  exact ⟨a, b, ns, ms, rfl, rfl, h1, g1, q _ h⟩
end
end DL

set_option Elab.async false
set_option linter.all false
set_option maxRecDepth 100000
set_option maxHeartbeats 4000000
/-! DL18: figures over a chain, the greatest size first. -/
namespace DL
open PySem PySem.Spec PyProof.Rows L2
variable [TabsC]
/-- the figures of n over the sizes, the greatest first, and what is left -/
def digs : List Int → Int → List Int × Int
  | [], n => ([], n)
  | c :: r, n => (n / c :: (digs r (n % c)).1, (digs r (n % c)).2)
def valF (cs fs : List Int) (l : Int) : Int := (List.zipWith (· * ·) fs cs).sum + l
theorem valF_cons (c f : Int) (r fs : List Int) (l : Int) : valF (c :: r) (f :: fs) l = f * c + valF r fs l := by
  unfold valF
  rw [List.zipWith_cons_cons, List.sum_cons, Int.add_assoc]
theorem digs_len : ∀ (cs : List Int) (n : Int), (digs cs n).1.length = cs.length
  | [], _ => rfl
  | c :: r, n => by
    show ((digs r (n % c)).1).length + 1 = r.length + 1
    rw [digs_len r]
theorem digs_val : ∀ (cs : List Int) (n : Int), valF cs (digs cs n).1 (digs cs n).2 = n
  | [], n => by unfold valF digs; simp
  | c :: r, n => by
    show valF (c :: r) (n / c :: (digs r (n % c)).1) (digs r (n % c)).2 = n
    rw [valF_cons, digs_val r (n % c)]
    have := Int.mul_ediv_add_emod n c
    rw [Int.mul_comm c] at this
    exact this
/-- sizes that divide each other, the greatest first -/
def dch : List Int → Prop
  | c :: d :: r => c % d = 0 ∧ 1 ≤ c ∧ dch (d :: r)
  | [c] => 1 ≤ c
  | [] => True
/-- figures as they are written -/
def digB : List Int → List Int → Int → Prop
  | c :: d :: r, f :: g :: fs, l => 0 ≤ f ∧ g < c / d ∧ digB (d :: r) (g :: fs) l
  | [c], [f], l => 0 ≤ f ∧ 0 ≤ l ∧ l < c
  | _, _, _ => False
theorem digs_ok : ∀ (cs : List Int) (n : Int), cs ≠ [] → dch cs → 0 ≤ n → digB cs (digs cs n).1 (digs cs n).2
  | [c], n, _, h, hn => by
    have h : 1 ≤ c := h
    exact ⟨Int.ediv_nonneg hn (by omega), Int.emod_nonneg n (by omega), Int.emod_lt_of_pos n (by omega)⟩
  | c :: d :: r, n, _, h, hn => by
    obtain ⟨h1, h2, h3⟩ := h
    have hd : 1 ≤ d := by cases r with
      | nil => exact h3
      | cons e r => exact h3.2.1
    have m0 := Int.emod_nonneg n (show c ≠ 0 by omega)
    have m1 := Int.emod_lt_of_pos n (show 0 < c by omega)
    refine ⟨Int.ediv_nonneg hn (by omega), ?_, digs_ok (d :: r) (n % c) (by simp) h3 m0⟩
    show n % c / d < c / d
    refine Int.ediv_lt_of_lt_mul (by omega) ?_
    have e : c / d * d = c := Int.ediv_mul_cancel (Int.dvd_of_emod_eq_zero h1)
    omega
theorem digB_rem : ∀ (c : Int) (r : List Int) (f : Int) (fs : List Int) (l : Int), digB (c :: r) (f :: fs) l → dch (c :: r) → 0 ≤ valF r fs l ∧ valF r fs l < c
  | c, [], f, [], l, h, _ => by
    unfold valF
    have h : 0 ≤ f ∧ 0 ≤ l ∧ l < c := h
    simp
    omega
  | c, d :: r, f, g :: fs, l, h, hd => by
    obtain ⟨h1, h2, h3⟩ := h
    obtain ⟨d1, d2, d3⟩ := hd
    obtain ⟨r0, r1⟩ := digB_rem d r g fs l h3 d3
    have hd' : 1 ≤ d := by omega
    have g0 : 0 ≤ g := by
      cases r with
      | nil => cases fs with
        | nil => exact h3.1
        | cons _ _ => exact h3.elim
      | cons _ _ => cases fs with
        | nil => exact h3.elim
        | cons _ _ => exact h3.1
    rw [valF_cons]
    have e : c / d * d = c := Int.ediv_mul_cancel (Int.dvd_of_emod_eq_zero d1)
    have u : (g + 1) * d ≤ c / d * d := Int.mul_le_mul_of_nonneg_right (by omega) (by omega)
    have v : 0 ≤ g * d := Int.mul_nonneg g0 (by omega)
    rw [Int.add_mul, Int.one_mul] at u
    omega
theorem digs_back : ∀ (cs fs : List Int) (l : Int), digB cs fs l → dch cs → digs cs (valF cs fs l) = (fs, l)
  | [c], [f], l, h, hd => by
    have h : 0 ≤ f ∧ 0 ≤ l ∧ l < c := h
    rw [valF_cons]
    show ((f * c + valF [] [] l) / c :: [], (f * c + valF [] [] l) % c) = _
    have e : valF [] [] l = l := by unfold valF; simp
    rw [e, Int.add_comm, Int.add_mul_ediv_right _ _ (by omega), Int.ediv_eq_zero_of_lt h.2.1 h.2.2, Int.add_mul_emod_self_right, Int.emod_eq_of_lt h.2.1 h.2.2, Int.zero_add]
  | c :: d :: r, f :: g :: fs, l, h, hd => by
    obtain ⟨r0, r1⟩ := digB_rem c (d :: r) f (g :: fs) l h hd
    have ih := digs_back (d :: r) (g :: fs) l h.2.2 hd.2.2
    rw [valF_cons]
    generalize hR : valF (d :: r) (g :: fs) l = R at *
    show ((f * c + R) / c :: (digs (d :: r) ((f * c + R) % c)).1, (digs (d :: r) ((f * c + R) % c)).2) = _
    rw [Int.add_comm, Int.add_mul_ediv_right _ _ (by omega), Int.ediv_eq_zero_of_lt r0 r1, Int.add_mul_emod_self_right, Int.emod_eq_of_lt r0 r1, Int.zero_add, ih]
theorem digs_lt : ∀ (cs : List Int) (n m : Int), (∀ c, c ∈ cs → 1 ≤ c) → HT.lexLt ((digs cs n).1 ++ [(digs cs n).2]) ((digs cs m).1 ++ [(digs cs m).2]) = decide (n < m)
  | [], n, m, _ => by
    show (if n = m then false else decide (n < m)) = _
    split
    · rename_i h; subst h; simp
    · rfl
  | c :: r, n, m, h => by
    have hc := h c List.mem_cons_self
    have ih := digs_lt r (n % c) (m % c) fun d hd => h d (List.mem_cons_of_mem _ hd)
    show (if n / c = m / c then HT.lexLt ((digs r (n % c)).1 ++ [(digs r (n % c)).2]) ((digs r (m % c)).1 ++ [(digs r (m % c)).2]) else decide (n / c < m / c)) = _
    rw [ih]
    have en := Int.mul_ediv_add_emod n c
    have em := Int.mul_ediv_add_emod m c
    have n0 := Int.emod_nonneg n (show c ≠ 0 by omega)
    have n1 := Int.emod_lt_of_pos n (show 0 < c by omega)
    have m0 := Int.emod_nonneg m (show c ≠ 0 by omega)
    have m1 := Int.emod_lt_of_pos m (show 0 < c by omega)
    split
    · rename_i e
      rw [e] at en
      exact decide_eq_decide.mpr (by omega)
    · rename_i e
      refine decide_eq_decide.mpr ⟨fun h => ?_, fun h => ?_⟩
      · have : c * (n / c + 1) ≤ c * (m / c) := Int.mul_le_mul_of_nonneg_left (by omega) (by omega)
        rw [Int.mul_add, Int.mul_one] at this
        omega
      · rcases Int.lt_or_gt_of_ne e with q | q
        · exact q
        · have : c * (m / c + 1) ≤ c * (n / c) := Int.mul_le_mul_of_nonneg_left (by omega) (by omega)
          rw [Int.mul_add, Int.mul_one] at this
          omega
theorem digs_moved (c : Int) (r : List Int) (n t : Int) (hc : 1 ≤ c) : digs (c :: r) (n + t * c) = (((digs (c :: r) n).1.headD 0 + t) :: (digs (c :: r) n).1.tail, (digs (c :: r) n).2) := by
  show ((n + t * c) / c :: (digs r ((n + t * c) % c)).1, (digs r ((n + t * c) % c)).2) = ((n / c + t) :: (digs r (n % c)).1, (digs r (n % c)).2)
  rw [Int.add_mul_ediv_right _ _ (by omega), Int.add_mul_emod_self_right]
theorem gap_inv {ns : List Int} {z : Int} (h0 : ns ≠ []) (h : gapL (ns ++ [z]) = none) : gapL ns = none ∧ z % ns.getLastD 0 = 0 := by
  unfold gapL at *
  rw [nb_append h0, List.find?_append, Option.or_eq_none_iff] at h
  refine ⟨h.1, ?_⟩
  have := h.2
  rw [List.find?_eq_none] at this
  have t := this _ (List.mem_singleton.mpr rfl)
  simpa using t
theorem dch_of : ∀ {cs : List Int}, (∀ c, c ∈ cs → 1 ≤ c) → gapL cs.reverse = none → dch cs
  | [], _, _ => trivial
  | [c], h, _ => h c List.mem_cons_self
  | c :: d :: r, h, hg => by
    have e : (c :: d :: r).reverse = (d :: r).reverse ++ [c] := List.reverse_cons
    rw [e] at hg
    obtain ⟨g1, g2⟩ := gap_inv (by simp) hg
    have l : (d :: r).reverse.getLastD 0 = d := by rw [List.reverse_cons, List.getLastD_concat]
    rw [l] at g2
    exact ⟨g2, h c List.mem_cons_self, dch_of (fun x hx => h x (List.mem_cons_of_mem _ hx)) g1⟩
theorem digB_len : ∀ {cs fs : List Int} {l : Int}, digB cs fs l → fs.length = cs.length ∧ cs ≠ [] ∧ (∀ f, f ∈ fs → 0 ≤ f) ∧ 0 ≤ l ∧ l < cs.getLastD 0
  | [c], [f], l, h => ⟨rfl, by simp, fun x hx => by rw [List.mem_singleton.mp hx]; exact h.1, h.2.1, h.2.2⟩
  | c :: d :: r, f :: g :: fs, l, h => by
    obtain ⟨a, b, e, x, y⟩ := digB_len h.2.2
    refine ⟨by simp only [List.length_cons] at a ⊢; omega, by simp, fun x hx => ?_, x, y⟩
    rcases List.mem_cons.mp hx with rfl | hx
    · exact h.1
    · exact e x hx
theorem getD_l {xs ys : List Int} {i : Nat} (h : i < xs.length) : (xs ++ ys).getD i 0 = xs.getD i 0 := by
  rw [List.getD_eq_getElem?_getD, List.getElem?_append_left h, ← List.getD_eq_getElem?_getD]
theorem getD_r {xs : List Int} {y : Int} : (xs ++ [y]).getD xs.length 0 = y := by
  rw [List.getD_eq_getElem?_getD, List.getElem?_append_right (Nat.le_refl _), Nat.sub_self]
  rfl
theorem digB_at : ∀ {cs fs : List Int} {l : Int}, digB cs fs l → ∀ i, i + 1 < cs.length → fs.reverse.getD i 0 < cs.reverse.getD (i + 1) 0 / cs.reverse.getD i 0
  | [c], [f], l, _, i, hi => by simp at hi
  | c :: d :: r, f :: g :: fs, l, h, i, hi => by
    have len := (digB_len h.2.2).1
    have e : (c :: d :: r).reverse = (d :: r).reverse ++ [c] := List.reverse_cons
    have e2 : (f :: g :: fs).reverse = (g :: fs).reverse ++ [f] := List.reverse_cons
    have lr : (d :: r).reverse.length = (d :: r).length := List.length_reverse
    have lr2 : (g :: fs).reverse.length = (d :: r).length := by rw [List.length_reverse, len]
    rw [e, e2]
    simp only [List.length_cons] at hi lr lr2
    by_cases hl : i + 1 < r.length + 1
    · rw [getD_l (by omega), getD_l (by omega), getD_l (by omega)]
      exact digB_at h.2.2 i (by simp only [List.length_cons]; omega)
    · have ei : i = r.length := by omega
      subst ei
      have a1 : ((d :: r).reverse ++ [c]).getD (r.length + 1) 0 = c := by
        have := getD_r (xs := (d :: r).reverse) (y := c)
        rwa [lr] at this
      have a2 : (d :: r).reverse.getD r.length 0 = d := by
        rw [List.reverse_cons]
        have := getD_r (xs := r.reverse) (y := d)
        rwa [List.length_reverse] at this
      have a3 : (g :: fs).reverse.getD r.length 0 = g := by
        rw [List.reverse_cons]
        have := getD_r (xs := fs.reverse) (y := g)
        rw [List.length_reverse] at this
        rw [List.length_cons, List.length_cons] at len
        rwa [show fs.length = r.length by omega] at this
      have b1 : ((g :: fs).reverse ++ [f]).getD r.length 0 = g := by rw [getD_l (by omega)]; exact a3
      have b2 : ((d :: r).reverse ++ [c]).getD r.length 0 = d := by rw [getD_l (by omega)]; exact a2
      rw [b1, a1, b2]
      exact h.2.1
theorem sum_rev : ∀ xs : List Int, xs.reverse.sum = xs.sum
  | [] => rfl
  | x :: xs => by rw [List.reverse_cons, List.sum_append, sum_rev xs, List.sum_cons, List.sum_cons, List.sum_nil]; omega
theorem zip_rev : ∀ {fs cs : List Int}, fs.length = cs.length → (List.zipWith (· * ·) fs.reverse cs.reverse).sum = (List.zipWith (· * ·) fs cs).sum := by
  intro fs cs h
  rw [← List.reverse_zipWith h, sum_rev]
theorem zip_at : ∀ {fs cs : List Int}, fs.length = cs.length → (List.range cs.length).map (fun i => fs.getD i 0 * cs.getD i 0) = List.zipWith (· * ·) fs cs
  | [], [], _ => rfl
  | f :: fs, c :: cs, h => by
    rw [List.length_cons, List.range_succ_eq_map, List.map_cons, List.map_map, List.zipWith_cons_cons]
    have := zip_at (fs := fs) (cs := cs) (by simpa using h)
    rw [← this]
    rfl
theorem mul_lim {i j : Int} (h1 : -(10 ^ 240) < i) (h2 : i < 10 ^ 240) (h3 : -(10 ^ 240) < j) (h4 : j < 10 ^ 240) : IntMulOk i j := CMulW.ok (by
  have a := log2_lim h1 h2
  have b := log2_lim h3 h4
  unfold CMulW
  omega)
theorem atI_0 {x : D} {r : List D} : atI (x :: r) 0 = some x := by
  unfold atI ixN
  rw [if_pos (by decide), if_pos (by rw [List.length_cons]; omega)]
  rfl
theorem atI_1 {x y : D} {r : List D} : atI (x :: y :: r) 1 = some y := by
  unfold atI ixN
  rw [if_pos (by decide), if_pos (by rw [List.length_cons, List.length_cons]; omega)]
  rfl
theorem cut_01 {x : D} {r : List D} : cutL (x :: r) none (some 1) = [x] := by
  unfold cutL
  rw [HT.sIx_none, show HT.sIx (x :: r).length (x :: r).length (some 1) = min 1 (x :: r).length from HT.sIx_nat _ _ 1, show min 1 (x :: r).length = 1 by rw [List.length_cons]; omega]
  rfl
theorem cut_init {xs : List D} {y : D} : cutL (xs ++ [y]) none (some (-1)) = xs := by
  unfold cutL
  rw [HT.sIx_none, show HT.sIx (xs ++ [y]).length (xs ++ [y]).length (some (-1)) = xs.length by
    show (if (-1 : Int) < 0 then ((-1 : Int) + ((xs ++ [y]).length : Int)).toNat else min (-1 : Int).toNat (xs ++ [y]).length) = _
    rw [if_pos (by decide), List.length_append, List.length_singleton]
    omega]
  simp
theorem digB_mk : ∀ {cs fs : List Int} {l : Int}, cs ≠ [] → fs.length = cs.length → (∀ f, f ∈ fs → 0 ≤ f) → 0 ≤ l → l < cs.getLastD 0 → (∀ i, i + 1 < cs.length → fs.reverse.getD i 0 < cs.reverse.getD (i + 1) 0 / cs.reverse.getD i 0) → digB cs fs l
  | [c], [f], l, _, _, hf, h0, h1, _ => ⟨hf f List.mem_cons_self, h0, h1⟩
  | c :: d :: r, f :: g :: fs, l, _, len, hf, h0, h1, hi => by
    have e : (c :: d :: r).reverse = (d :: r).reverse ++ [c] := List.reverse_cons
    have e2 : (f :: g :: fs).reverse = (g :: fs).reverse ++ [f] := List.reverse_cons
    simp only [List.length_cons] at len
    have lr : (d :: r).reverse.length = r.length + 1 := by rw [List.length_reverse, List.length_cons]
    have lr2 : (g :: fs).reverse.length = r.length + 1 := by rw [List.length_reverse, List.length_cons]; omega
    refine ⟨hf f List.mem_cons_self, ?_, digB_mk (by simp) (by simp only [List.length_cons]; omega) (fun x hx => hf x (List.mem_cons_of_mem _ hx)) h0 h1 fun i hil => ?_⟩
    · have t := hi r.length (by simp only [List.length_cons]; omega)
      rw [e, e2] at t
      have a1 : ((d :: r).reverse ++ [c]).getD (r.length + 1) 0 = c := by
        have := getD_r (xs := (d :: r).reverse) (y := c)
        rwa [lr] at this
      have a2 : (d :: r).reverse.getD r.length 0 = d := by
        rw [List.reverse_cons]
        have := getD_r (xs := r.reverse) (y := d)
        rwa [List.length_reverse] at this
      have a3 : (g :: fs).reverse.getD r.length 0 = g := by
        rw [List.reverse_cons]
        have := getD_r (xs := fs.reverse) (y := g)
        rw [List.length_reverse] at this
        rwa [show fs.length = r.length by omega] at this
      have b1 : ((g :: fs).reverse ++ [f]).getD r.length 0 = g := by rw [getD_l (by omega)]; exact a3
      have b2 : ((d :: r).reverse ++ [c]).getD r.length 0 = d := by rw [getD_l (by omega)]; exact a2
      rwa [b1, a1, b2] at t
    · have t := hi i (by simp only [List.length_cons] at hil ⊢; omega)
      simp only [List.length_cons] at hil
      rw [e, e2] at t
      have b1 : ((g :: fs).reverse ++ [f]).getD i 0 = (g :: fs).reverse.getD i 0 := getD_l (by omega)
      have b2 : ((d :: r).reverse ++ [c]).getD i 0 = (d :: r).reverse.getD i 0 := getD_l (by omega)
      have b3 : ((d :: r).reverse ++ [c]).getD (i + 1) 0 = (d :: r).reverse.getD (i + 1) 0 := getD_l (by omega)
      rwa [b1, b2, b3] at t
/-- a comprehension whose items are drawn, each by its turn -/
theorem compL_each {g : GM} {mt : BM} {me : TM} {δ0 : List DV} (p : D → D → Prop) : ∀ {ds : List D}, (∀ d, d ∈ ds → ∀ (R : D → Prop) (S : Prop), (∀ y, p d y → R y) → g d δ0 fun δ' => mt δ' (fun b => if b = true then me δ' R NoE else S) NoE) →
    ∀ {acc : List D} {Q : D → Prop}, (∀ ys : List D, ys.length = ds.length → (∀ (i : Nat) (d y : D), ds[i]? = some d → ys[i]? = some y → p d y) → Q (.list (acc ++ ys))) → compL g mt me δ0 ds acc Q := by
  intro ds
  induction ds with
  | nil =>
    intro _ acc Q q
    have := q [] rfl (fun i d y e => by cases e)
    simpa [compL] using this
  | cons d ds ih =>
    intro h acc Q q
    unfold compL
    refine h d List.mem_cons_self _ _ fun y hy => ?_
    refine ih (fun d' h' => h d' (List.mem_cons_of_mem _ h')) fun ys hl hp => ?_
    have := q (y :: ys) (by rw [List.length_cons, List.length_cons, hl]) (fun i d' y' e1 e2 => by
      cases i with
      | zero => cases e1; cases e2; exact hy
      | succ i => exact hp i d' y' e1 e2)
    simpa using this
theorem atI_end {xs : List D} {y : D} : atI (xs ++ [y]) (-1) = some y := by
  unfold atI ixN
  rw [if_neg (by decide), if_pos (by rw [List.length_append, List.length_singleton]; omega)]
  show (xs ++ [y])[((-1 : Int) + ((xs ++ [y]).length : Int)).toNat]? = some y
  rw [show ((-1 : Int) + ((xs ++ [y]).length : Int)).toNat = xs.length by rw [List.length_append, List.length_singleton]; omega, List.getElem?_append_right (Nat.le_refl _), Nat.sub_self]
  rfl
end DL

set_option Elab.async false
set_option linter.all false
set_option maxRecDepth 100000
set_option maxHeartbeats 4000000
/-! DL19: stars in displays; max(.., key=len) of tuples, with a default or without. -/
namespace DL
open PySem PySem.Spec PyProof.Rows L2
variable [TabsC]
section
variable {X : Cx} {W : WX} {a b c e e2 o : Expr} {es : List Expr} {ba bb : Bool} {ma mb mc : TM} {la : LM} {pos p p2 pos2 : Pos} {x y : Str} {k : Nat}
/-! ### *e -/
def mStar (ma : TM) (la : LM) : LM := fun δ P E => ma δ (fun d => ∃ xs, (d = .tup xs ∨ d = .list xs) ∧ la δ (fun ds => P (xs ++ ds)) E) E
theorem RVs.of_reps {K : PySem.W.Frag} {fo ls : List Addr} {H : Hp} {b : Bool} : ∀ {vs : List V} {ds : List D}, Reps K (sub H ls) vs ds → RVs K fo ls H b vs ds
  | _, _, .nil => .nil
  | _, _, .cons r t => .cons (.cl r) (RVs.of_reps t)
theorem RVs.append {K : PySem.W.Frag} {fo ls : List Addr} {H : Hp} {b : Bool} : ∀ {vs ws : List V} {ds es : List D}, RVs K fo ls H b vs ds → RVs K fo ls H b ws es → RVs K fo ls H b (vs ++ ws) (ds ++ es)
  | _, _, _, _, .nil, h => h
  | _, _, _, _, .cons r t, h => .cons r (RVs.append t h)
theorem da_star {pp : Pos} (ha : DE X W e ba ma) (hr : DA X W es bb la) (hs : starEach (.Starred e pp :: es) X.env = (true, eval e X.env) :: starEach es X.env := by rfl) : DA X W (.Starred e pp :: es) bb (mStar ma la) :=
  PA.imp (StX.pa_star ha hr hs) fun σ H Q ⟨F, own, δ, P, EK, A, m, q⟩ => ⟨F, own, δ, _, EK, A, m, fun d v H1 ⟨xs, ed, m1⟩ s1 r1 => by
    rcases ed with rfl | rfl
    · obtain ⟨a, vs, rfl, h1, h2, h3⟩ := r1.tup
      exact ⟨a, vs, rfl, .inl h1, F, own, δ, _, EK, A.on s1, m1, fun ds ws H2 m2 s2 r2 => q _ _ H2 m2 (s1.trans s2) ((RVs.of_reps (h3.mono (sub_same s2))).append r2)⟩
    · obtain ⟨a, vs, rfl, h1, h2, h3⟩ := r1.list
      exact ⟨a, vs, rfl, .inr (.of h1), F, own, δ, _, EK, A.on s1, m1, fun ds ws H2 m2 s2 r2 => q _ _ H2 m2 (s1.trans s2) ((RVs.of_reps (h3.mono (sub_same s2))).append r2)⟩⟩
/-! ### max by length -/
theorem best_spec (len : Nat → Nat) : ∀ k, argBest (fun i j => decide ((len j : Int) < (len i : Int))) k ≤ k ∧ (∀ j, j ≤ k → len j ≤ len (argBest (fun i j => decide ((len j : Int) < (len i : Int))) k)) ∧ ∀ j, j < argBest (fun i j => decide ((len j : Int) < (len i : Int))) k → len j < len (argBest (fun i j => decide ((len j : Int) < (len i : Int))) k)
  | 0 => ⟨Nat.le_refl _, fun j hj => by rw [Nat.le_zero.mp hj]; exact Nat.le_refl _, fun j hj => absurd hj (Nat.not_lt_zero j)⟩
  | k + 1 => by
    obtain ⟨h1, h2, h3⟩ := best_spec len k
    generalize hb : argBest (fun i j => decide ((len j : Int) < (len i : Int))) k = b at *
    show (if decide ((len (argBest _ k) : Int) < (len (k + 1) : Int)) = true then k + 1 else argBest _ k) ≤ k + 1 ∧ (∀ j, j ≤ k + 1 → len j ≤ len (if decide ((len (argBest _ k) : Int) < (len (k + 1) : Int)) = true then k + 1 else argBest _ k)) ∧ ∀ j, j < (if decide ((len (argBest _ k) : Int) < (len (k + 1) : Int)) = true then k + 1 else argBest _ k) → len j < len (if decide ((len (argBest _ k) : Int) < (len (k + 1) : Int)) = true then k + 1 else argBest _ k)
    rw [hb]
    by_cases h : (len b : Int) < (len (k + 1) : Int)
    · rw [if_pos (decide_eq_true h)]
      have hn : len b < len (k + 1) := by omega
      refine ⟨Nat.le_refl _, fun j hj => ?_, fun j hj => ?_⟩
      · rcases Nat.lt_or_eq_of_le hj with q | q
        · exact Nat.le_of_lt (Nat.lt_of_le_of_lt (h2 j (by omega)) hn)
        · rw [q]; exact Nat.le_refl _
      · exact Nat.lt_of_le_of_lt (h2 j (by omega)) hn
    · rw [if_neg (by simpa using h)]
      refine ⟨by omega, fun j hj => ?_, h3⟩
      rcases Nat.lt_or_eq_of_le hj with q | q
      · exact h2 j (by omega)
      · rw [q]; omega
/-- the first of the longest -/
def Longest (xs : List (List V)) (i : Nat) : Prop := i < xs.length ∧ (∀ j, j < xs.length → (xs.getD j []).length ≤ (xs.getD i []).length) ∧ ∀ j, j < i → (xs.getD j []).length < (xs.getD i []).length
/-- tuples at addresses -/
def TupsAt (K : PySem.W.Frag) (H : Hp) (ps : List Addr) (xs : List (List V)) : Prop := ps.length = xs.length ∧ ∀ i, i < ps.length → SqT K H (ps.getD i 0) (xs.getD i [])
theorem max_len_run {pins : List (Addr × Obj)} {s : Shared} {σ : L2.St} {H : Hp} {A : Around} {l : Addr} {ps : List Addr} {xs : List (List V)} (hh : A.handled = none) (I : Inv X pins σ H s) (hl : SqL X.K H l (ps.map V.ref)) (ht : TupsAt X.K H ps xs)
    {Q : Value → Shared → Prop} {E : Value → Shared → Prop} (h0 : 0 < ps.length) (hQ : ∀ i s', Longest xs i → Inv X pins σ H s' → Q (.ref (ps.getD i 0)) s') : wpAny (model X.prog X.w) A (call (.builtin "max") [.ref l] [(Str.ofString "key", .builtin "len")]) Q E s := by
  obtain ⟨its, rv, pl, hz⟩ := I.list hl
  have hlen : its.length = ps.length := by rw [← rv.length, List.length_map]
  have item : ∀ i, i < ps.length → its[i]? = some (.ref (ps.getD i 0)) := fun i hi => by
    have : (ps.map V.ref)[i]? = some (V.ref (ps.getD i 0)) := by
      rw [List.getElem?_map, List.getElem?_eq_getElem hi, List.getD_eq_getElem?_getD, List.getElem?_eq_getElem hi]
      rfl
    obtain ⟨u, hu, ru⟩ := rv.get this
    obtain rfl : u = .ref (ps.getD i 0) := ru
    exact hu
  have tup : ∀ i, i < ps.length → ∃ vs : List Value, IsTup s.heap (ps.getD i 0) vs.toArray ∧ vs.length = (xs.getD i []).length ∧ (xs.getD i []).length ≤ sizeLine := fun i hi => by
    obtain ⟨vs, r2, pt, hz2⟩ := I.tuple (ht.2 i hi)
    exact ⟨vs, pt, r2.length.symm, hz2⟩
  refine call_max_walkKB ?_
  refine wpAny_pyIter_list pl.isList ?_
  have lt : l < s.heap.objs.size := pl.lt
  refine ⟨s.heap.objs.size, [s.heap.objs.size, l], [s.heap.objs.size], (fun a b => b = a), its.toArray.size, _, _, (fun s' => (∀ b o, s.heap.get? b = some o → s'.heap.get? b = some o) ∧ s'.gens = s.gens ∧ s'.drawn = s.drawn ∧ s'.os = s.os), (fun i k _ => ∃ t, k = .int ((xs.getD i []).length : Int) t), (fun i j => decide (((xs.getD j []).length : Int) < ((xs.getD i []).length : Int))), rfl, (Walks.list (A := A.in1) hh s.heap.objs.size l (Nat.ne_of_lt lt) its.toArray).toS, ⟨⟨_, Heap.get?_push_size _ rfl, rfl, rfl⟩, pl.isList.push _⟩, fun b hb => ?_, by rw [List.size_toArray]; omega, ?_, ⟨fun b o e => Heap.get?_push_of_some _ e, rfl, rfl, rfl⟩, fun v s' hv ⟨j1, j2, j3, j4⟩ => ?_⟩
  · rw [Heap.size_push]
    simp only [List.mem_cons, List.not_mem_nil, or_false] at hb
    rcases hb with rfl | rfl
    · exact Nat.lt_succ_self _
    · exact Nat.lt_succ_of_lt lt
  · exact {
      keep := fun s1 s2 ⟨j1, j2, j3, j4⟩ m => ⟨fun b o e => m.heap b o (by
        have hb := Heap.lt_size e
        rw [Heap.size_push]
        simp only [List.mem_cons, List.not_mem_nil, or_false, not_or]
        exact ⟨Nat.ne_of_lt (Nat.lt_succ_of_lt hb), Nat.ne_of_lt hb⟩) (j1 b o e), m.gens.trans j2, m.drawn.trans j3, m.os.trans j4⟩
      keepV := fun i k s1 s2 h _ => h
      turn := fun i v s1 o Q E hi hv ⟨j1, j2, j3, j4⟩ st ho q => by
        rw [List.size_toArray, hlen] at hi
        have ev : v = .ref (ps.getD i 0) := by
          have := item i hi
          rw [List.getElem?_toArray, this] at hv
          exact (Option.some.inj hv).symm
        subst ev
        obtain ⟨vs, pt, hl2, hz2⟩ := tup i hi
        obtain ⟨ot, e1, e2, e3⟩ := pt
        refine PyProof.Rows.len_tuple (items := vs.toArray) ⟨ot, j1 _ _ e1, e2, e3⟩ (by rw [List.size_toArray]; rw [sizeLine_eq] at hz2; omega) ?_
        refine q _ _ ⟨j1, j2, j3, j4⟩ st ho ⟨_, by rw [List.size_toArray, hl2]⟩ fun j k' h => h
      cmp := fun i j ki kj s1 Q E _ ⟨t, e1⟩ ⟨u, e2⟩ q => by
        subst e1 e2
        exact Ob.RcOp.gt_int _ _ _ _ _ _ _ _ q }
  · obtain ⟨b1, b2, b3⟩ := best_spec (fun i => (xs.getD i []).length) (its.toArray.size - 1)
    generalize argBest (fun i j => decide (((xs.getD j []).length : Int) < ((xs.getD i []).length : Int))) (its.toArray.size - 1) = b at *
    rw [List.size_toArray, hlen] at b1 b2
    have hb : b < ps.length := by omega
    have ev : v = .ref (ps.getD b 0) := by
      have := item b hb
      rw [List.getElem?_toArray, this] at hv
      exact (Option.some.inj hv).symm
    subst ev
    obtain ⟨hp', gens', drawn', tk', os'⟩ := s'
    obtain rfl : gens' = s.gens := j2
    obtain rfl : drawn' = s.drawn := j3
    obtain rfl : os' = s.os := j4
    refine hQ b _ ⟨by rw [← ht.1]; exact hb, fun j hj => b2 j (by rw [← ht.1] at hj; omega), b3⟩ (I.kept (t' := tk') j1)
theorem max_len_runD {pins : List (Addr × Obj)} {s : Shared} {σ : L2.St} {H : Hp} {A : Around} {l : Addr} {ps : List Addr} {xs : List (List V)} (hh : A.handled = none) (I : Inv X pins σ H s) (hl : SqL X.K H l (ps.map V.ref)) (ht : TupsAt X.K H ps xs)
    {Q : Value → Shared → Prop} {E : Value → Shared → Prop} {dv : Value} (hD : ps = [] → ∀ s', Inv X pins σ H s' → Q dv s') (hQ : ∀ i s', Longest xs i → Inv X pins σ H s' → Q (.ref (ps.getD i 0)) s') : wpAny (model X.prog X.w) A (call (.builtin "max") [.ref l] [(Str.ofString "key", .builtin "len"), (Str.ofString "default", dv)]) Q E s := by
  obtain ⟨its, rv, pl, hz⟩ := I.list hl
  have hlen : its.length = ps.length := by rw [← rv.length, List.length_map]
  have item : ∀ i, i < ps.length → its[i]? = some (.ref (ps.getD i 0)) := fun i hi => by
    have : (ps.map V.ref)[i]? = some (V.ref (ps.getD i 0)) := by
      rw [List.getElem?_map, List.getElem?_eq_getElem hi, List.getD_eq_getElem?_getD, List.getElem?_eq_getElem hi]
      rfl
    obtain ⟨u, hu, ru⟩ := rv.get this
    obtain rfl : u = .ref (ps.getD i 0) := ru
    exact hu
  have tup : ∀ i, i < ps.length → ∃ vs : List Value, IsTup s.heap (ps.getD i 0) vs.toArray ∧ vs.length = (xs.getD i []).length ∧ (xs.getD i []).length ≤ sizeLine := fun i hi => by
    obtain ⟨vs, r2, pt, hz2⟩ := I.tuple (ht.2 i hi)
    exact ⟨vs, pt, r2.length.symm, hz2⟩
  refine call_max_walkKBD ?_
  refine wpAny_pyIter_list pl.isList ?_
  have lt : l < s.heap.objs.size := pl.lt
  refine ⟨s.heap.objs.size, [s.heap.objs.size, l], [s.heap.objs.size], (fun a b => b = a), its.toArray.size, _, _, (fun s' => (∀ b o, s.heap.get? b = some o → s'.heap.get? b = some o) ∧ s'.gens = s.gens ∧ s'.drawn = s.drawn ∧ s'.os = s.os), (fun i k _ => ∃ t, k = .int ((xs.getD i []).length : Int) t), (fun i j => decide (((xs.getD j []).length : Int) < ((xs.getD i []).length : Int))), rfl, (Walks.list (A := A.in1) hh s.heap.objs.size l (Nat.ne_of_lt lt) its.toArray).toS, ⟨⟨_, Heap.get?_push_size _ rfl, rfl, rfl⟩, pl.isList.push _⟩, fun b hb => ?_, ?_, ⟨fun b o e => Heap.get?_push_of_some _ e, rfl, rfl, rfl⟩, fun n0 s' ⟨j1, j2, j3, j4⟩ => ?_, fun n0 v s' hv ⟨j1, j2, j3, j4⟩ => ?_⟩
  · rw [Heap.size_push]
    simp only [List.mem_cons, List.not_mem_nil, or_false] at hb
    rcases hb with rfl | rfl
    · exact Nat.lt_succ_self _
    · exact Nat.lt_succ_of_lt lt
  · exact {
      keep := fun s1 s2 ⟨j1, j2, j3, j4⟩ m => ⟨fun b o e => m.heap b o (by
        have hb := Heap.lt_size e
        rw [Heap.size_push]
        simp only [List.mem_cons, List.not_mem_nil, or_false, not_or]
        exact ⟨Nat.ne_of_lt (Nat.lt_succ_of_lt hb), Nat.ne_of_lt hb⟩) (j1 b o e), m.gens.trans j2, m.drawn.trans j3, m.os.trans j4⟩
      keepV := fun i k s1 s2 h _ => h
      turn := fun i v s1 o Q E hi hv ⟨j1, j2, j3, j4⟩ st ho q => by
        rw [List.size_toArray, hlen] at hi
        have ev : v = .ref (ps.getD i 0) := by
          have := item i hi
          rw [List.getElem?_toArray, this] at hv
          exact (Option.some.inj hv).symm
        subst ev
        obtain ⟨vs, pt, hl2, hz2⟩ := tup i hi
        obtain ⟨ot, e1, e2, e3⟩ := pt
        refine PyProof.Rows.len_tuple (items := vs.toArray) ⟨ot, j1 _ _ e1, e2, e3⟩ (by rw [List.size_toArray]; rw [sizeLine_eq] at hz2; omega) ?_
        refine q _ _ ⟨j1, j2, j3, j4⟩ st ho ⟨_, by rw [List.size_toArray, hl2]⟩ fun j k' h => h
      cmp := fun i j ki kj s1 Q E _ ⟨t, e1⟩ ⟨u, e2⟩ q => by
        subst e1 e2
        exact Ob.RcOp.gt_int _ _ _ _ _ _ _ _ q }
  · rw [List.size_toArray, hlen] at n0
    obtain ⟨hp', gens', drawn', tk', os'⟩ := s'
    obtain rfl : gens' = s.gens := j2
    obtain rfl : drawn' = s.drawn := j3
    obtain rfl : os' = s.os := j4
    exact hD (List.length_eq_zero_iff.mp n0) _ (I.kept (t' := tk') j1)
  · obtain ⟨b1, b2, b3⟩ := best_spec (fun i => (xs.getD i []).length) (its.toArray.size - 1)
    generalize argBest (fun i j => decide (((xs.getD j []).length : Int) < ((xs.getD i []).length : Int))) (its.toArray.size - 1) = b at *
    rw [List.size_toArray, hlen] at b1 b2 n0
    have hb : b < ps.length := by omega
    have ev : v = .ref (ps.getD b 0) := by
      have := item b hb
      rw [List.getElem?_toArray, this] at hv
      exact (Option.some.inj hv).symm
    subst ev
    obtain ⟨hp', gens', drawn', tk', os'⟩ := s'
    obtain rfl : gens' = s.gens := j2
    obtain rfl : drawn' = s.drawn := j3
    obtain rfl : os' = s.os := j4
    refine hQ b _ ⟨by rw [← ht.1]; exact hb, fun j hj => b2 j (by rw [← ht.1] at hj; omega), b3⟩ (I.kept (t' := tk') j1)

def rMaxLen (K : PySem.W.Frag) : List V → Hp → VK → Prop := fun vs H Q => ∃ (l : Addr) (ps : List Addr) (xs : List (List V)), vs = [V.ref l] ∧ SqL K H l (ps.map V.ref) ∧ TupsAt K H ps xs ∧ 0 < ps.length ∧ ∀ i, Longest xs i → Q (.ref (ps.getD i 0)) H
def rMaxLenD (K : PySem.W.Frag) : List V → V → Hp → VK → Prop := fun vs d H Q => ∃ (l : Addr) (ps : List Addr) (xs : List (List V)), vs = [V.ref l] ∧ SqL K H l (ps.map V.ref) ∧ TupsAt K H ps xs ∧ (ps = [] → Q d H) ∧ ∀ i, Longest xs i → Q (.ref (ps.getD i 0)) H
theorem pe_maxLen {te : TA} {kp pl : Pos} (hc : X.calm = true) (hg : Gl X "max") (hm : X.mg "max" = none) (hg2 : Gl X "len") (hm2 : X.mg "len" = none) (ha : PA X [e] te)
    (he : backTo pos (starEach [e] X.env) = (false, eval e X.env) :: backTo pos (starEach [] X.env) := by rfl) (hpl : (backTo pos (starEach [e] X.env)).any (·.1) = false := by rfl) :
    PE X (.Call (.Name "max" p) [e] [⟨some "key", .Name "len" pl, kp⟩] pos) (tCB (rMaxLen X.K) te) := by
  refine ⟨fun pins s σ H Q I h => ?_⟩
  refine wpAny_Call_Name_kw (ld_blt (u := .builtin "max") I hg hm (by decide +kernel) ?_)
  refine PyProof.Rows.callWith_kw (thn (ha.run pos pins s σ H _ I h) fun us s1 ⟨vs, H1, I1, r1, l, ps, xs, ev, hl, ht, h0, q⟩ => ?_) he hpl (by rfl) (by rfl)
  subst ev
  obtain ⟨u, rfl, ru⟩ := vals1 r1
  obtain rfl : u = .ref l := ru
  show wpAny _ _ (evalAll [(do let v ← eval (.Name "len" pl) X.env; standAt pos; pure v)]) _ _ s1
  refine wpAny_evalAll_cons (wpAny_bind (ld_blt (u := .builtin "len") I1 hg2 hm2 (by decide +kernel) (wpAny_bind (wpAny_standAt (wpAny_pure (wpAny_evalAll_nil ?_))))))
  exact max_len_run (I1.ok.hd hc) I1 hl ht h0 fun i s' hi I' => ⟨.ref (ps.getD i 0), H1, I', rfl, q i hi⟩
theorem pe_maxLenD {te : TA} {td : TE} {kp kp2 pl : Pos} (hc : X.calm = true) (hg : Gl X "max") (hm : X.mg "max" = none) (hg2 : Gl X "len") (hm2 : X.mg "len" = none) (ha : PA X [e] te) (hd : PE X e2 td)
    (he : backTo pos (starEach [e] X.env) = (false, eval e X.env) :: backTo pos (starEach [] X.env) := by rfl) (hpl : (backTo pos (starEach [e] X.env)).any (·.1) = false := by rfl) :
    PE X (.Call (.Name "max" p) [e] [⟨some "key", .Name "len" pl, kp⟩, ⟨some "default", e2, kp2⟩] pos) (fun σ H Q => te σ H fun vs H1 => td σ H1 fun d H2 => rMaxLenD X.K vs d H2 Q) := by
  refine ⟨fun pins s σ H Q I h => ?_⟩
  refine wpAny_Call_Name_kw (ld_blt (u := .builtin "max") I hg hm (by decide +kernel) ?_)
  refine PyProof.Rows.callWith_kw (thn (ha.run pos pins s σ H _ I h) fun us s1 ⟨vs, H1, I1, r1, h1⟩ => ?_) he hpl (by rfl) (by rfl)
  show wpAny _ _ (evalAll [(do let v ← eval (.Name "len" pl) X.env; standAt pos; pure v), (do let v ← eval e2 X.env; standAt pos; pure v)]) _ _ s1
  refine wpAny_evalAll_cons (wpAny_bind (ld_blt (u := .builtin "len") I1 hg2 hm2 (by decide +kernel) (wpAny_bind (wpAny_standAt (wpAny_pure ?_)))))
  refine wpAny_evalAll_cons (wpAny_bind (thn (hd.run pins s1 σ H1 _ I1 h1) fun w s2 ⟨d, H2, I2, r2, l, ps, xs, ev, hl, ht, hD, q⟩ => wpAny_bind (wpAny_standAt (wpAny_pure (wpAny_evalAll_nil ?_)))))
  subst ev
  obtain ⟨u, rfl, ru⟩ := vals1 r1
  obtain rfl : u = .ref l := ru
  exact max_len_runD (I2.ok.hd hc) I2 hl ht (fun e s' I' => ⟨d, H2, I', r2, hD e⟩) fun i s' hi I' => ⟨.ref (ps.getD i 0), H2, I', rfl, q i hi⟩
/-! over data -/
def LongestD (ts : List (List D)) (i : Nat) : Prop := i < ts.length ∧ (∀ j, j < ts.length → (ts.getD j []).length ≤ (ts.getD i []).length) ∧ ∀ j, j < i → (ts.getD j []).length < (ts.getD i []).length
theorem reps_tups {K : PySem.W.Frag} {H : Hp} : ∀ {vs : List V} {ts : List (List D)}, Reps K H vs (ts.map .tup) → ∃ (ps : List Addr) (xs : List (List V)), vs = ps.map V.ref ∧ TupsAt K H ps xs ∧ ps.length = ts.length ∧ (∀ i, i < ts.length → (xs.getD i []).length = (ts.getD i []).length) ∧ ∀ i, i < ts.length → Rep K H (.ref (ps.getD i 0)) (.tup (ts.getD i []))
  | vs, [], r => by
    cases r
    exact ⟨[], [], rfl, ⟨rfl, fun i hi => absurd hi (Nat.not_lt_zero i)⟩, rfl, fun i hi => absurd hi (Nat.not_lt_zero i), fun i hi => absurd hi (Nat.not_lt_zero i)⟩
  | vs, t :: ts, r => by
    cases r with
    | cons r rt =>
      obtain ⟨ps, xs, rfl, ⟨t1, t2⟩, h1, h2, h3⟩ := reps_tups rt
      have r' := r
      cases r with
      | tup h l rr =>
        rename_i a ws
        refine ⟨a :: ps, ws :: xs, rfl, ⟨by rw [List.length_cons, List.length_cons, t1], fun i hi => ?_⟩, by rw [List.length_cons, List.length_cons, h1], fun i hi => ?_, fun i hi => ?_⟩
        · cases i with
          | zero => exact h
          | succ i => exact t2 i (by simpa using hi)
        · cases i with
          | zero => exact rr.length
          | succ i => exact h2 i (by simpa using hi)
        · cases i with
          | zero => exact r'
          | succ i => exact h3 i (by simpa using hi)
def fMaxLen (ds : List D) (Q : D → Prop) : Prop := ∃ ts : List (List D), ds = [.list (ts.map .tup)] ∧ 0 < ts.length ∧ ∀ i, LongestD ts i → Q (.tup (ts.getD i []))
def mMaxLenD (la : LM) (md : TM) : TM := fun δ Q E => la δ (fun ds => md δ (fun d => ∃ ts : List (List D), ds = [.list (ts.map .tup)] ∧ (ts = [] → Q d) ∧ ∀ i, LongestD ts i → Q (.tup (ts.getD i []))) E) E
theorem longest_of {K : PySem.W.Frag} {H : Hp} {ps : List Addr} {xs : List (List V)} {ts : List (List D)} (t : TupsAt K H ps xs) (h1 : ps.length = ts.length) (h2 : ∀ i, i < ts.length → (xs.getD i []).length = (ts.getD i []).length) {i : Nat} (h : Longest xs i) : LongestD ts i := by
  obtain ⟨a1, a2, a3⟩ := h
  have e := t.1
  refine ⟨by omega, fun j hj => ?_, fun j hj => ?_⟩
  · rw [← h2 j hj, ← h2 i (by omega)]
    exact a2 j (by omega)
  · rw [← h2 j (by omega), ← h2 i (by omega)]
    exact a3 j hj
theorem link_maxLen : LinkB X.K (rMaxLen X.K) fMaxLen := by
  intro fo ls H vs ds P Q ht r ⟨ts, e, h0, h⟩ q
  subst e
  obtain ⟨v, rfl, rr⟩ := r.one
  obtain ⟨a, us, rfl, g1, g2, g3⟩ := rr.list
  obtain ⟨ps, xs, rfl, ⟨t1, t2⟩, h1, h2, h3⟩ := reps_tups g3
  refine ⟨a, ps, xs, rfl, .of g1, ⟨t1, fun i hi => sameT sub_le (t2 i hi)⟩, by omega, fun i hi => ?_⟩
  have hL := longest_of (K := X.K) (H := sub H ls) ⟨t1, t2⟩ h1 h2 hi
  exact q _ _ H (h i hL) (Same.refl H) (h3 i hL.1)
theorem de_maxLen {kp pl : Pos} (hc : X.calm = true) (hg : Gl X "max") (hm : X.mg "max" = none) (hg2 : Gl X "len") (hm2 : X.mg "len" = none) (ha : DA X W [e] ba la)
    (he : backTo pos (starEach [e] X.env) = (false, eval e X.env) :: backTo pos (starEach [] X.env) := by rfl) (hpl : (backTo pos (starEach [e] X.env)).any (·.1) = false := by rfl) :
    DE X W (.Call (.Name "max" p) [e] [⟨some "key", .Name "len" pl, kp⟩] pos) false (mB fMaxLen la) :=
  PE.imp (pe_maxLen hc hg hm hg2 hm2 ha he hpl) fun _ _ _ h => link_b link_maxLen h
theorem de_maxLenD {kp kp2 pl : Pos} (hc : X.calm = true) (hg : Gl X "max") (hm : X.mg "max" = none) (hg2 : Gl X "len") (hm2 : X.mg "len" = none) (ha : DA X W [e] true la) (hd : DE X W e2 bb mb)
    (he : backTo pos (starEach [e] X.env) = (false, eval e X.env) :: backTo pos (starEach [] X.env) := by rfl) (hpl : (backTo pos (starEach [e] X.env)).any (·.1) = false := by rfl) :
    DE X W (.Call (.Name "max" p) [e] [⟨some "key", .Name "len" pl, kp⟩, ⟨some "default", e2, kp2⟩] pos) bb (mMaxLenD la mb) :=
  PE.imp (pe_maxLenD hc hg hm hg2 hm2 ha hd he hpl) fun σ H Q ⟨F, own, δ, P, EK, A, m, q⟩ => ⟨F, own, δ, _, EK, A, m, fun ds vs H1 m1 s1 r1 => ⟨F, own, δ, _, EK, A.on s1, m1, fun d v H2 ⟨ts, e, hD, h⟩ s2 r2 => by
    subst e
    obtain ⟨w, rfl, rr⟩ := (r1.mono s2).one
    obtain ⟨a, us, rfl, g1, g2, g3⟩ := rr.list
    obtain ⟨ps, xs, rfl, ⟨t1, t2⟩, h1, h2, h3⟩ := reps_tups g3
    refine ⟨a, ps, xs, rfl, .of g1, ⟨t1, fun i hi => sameT sub_le (t2 i hi)⟩, fun e => ?_, fun i hi => ?_⟩
    · subst e
      exact q _ _ H2 (hD (List.length_eq_zero_iff.mp h1.symm)) (s1.trans s2) r2
    · have hL := longest_of (K := X.K) (H := sub H2 (F.ls0 ++ own)) ⟨t1, t2⟩ h1 h2 hi
      exact q _ _ H2 (h i hL) (s1.trans s2) (.cl (h3 i hL.1))⟩⟩
end
end DL

set_option Elab.async false
set_option linter.all false
set_option maxRecDepth 100000
set_option maxHeartbeats 4000000
/-! DL20: dicts: d[k] = e, d[k], comprehensions over a dict's keys. -/
namespace DL
open PySem PySem.Spec PyProof.Rows L2
variable [TabsC]
theorem RepKs.len {K : PySem.W.Frag} {H : Hp} : ∀ {vs : List (Key × V)} {ds : List (Key × D)}, RepKs K H vs ds → vs.length = ds.length
  | _, _, .nil => rfl
  | _, _, .cons _ r => by rw [List.length_cons, List.length_cons, RepKs.len r]
theorem kV_of {K : PySem.W.Frag} {fo ls : List Addr} {H : Hp} {b : Bool} {v : V} {k : Key} (r : RV K fo ls H b v (keyD k)) : v = kV k := by
  cases k with
  | inl i => exact r.isInt
  | inr z => exact r.isStr
theorem putK_len (kvs : List (Key × V)) (k : Key) (v : V) : (putK kvs k v).length ≤ kvs.length + 1 := by
  unfold putK
  split
  · rw [List.length_map]; omega
  · rw [List.length_append, List.length_singleton]; omega
section
variable {X : Cx} {W : WX} {a b c e e2 o : Expr} {es : List Expr} {ba bb : Bool} {ma mb mc mk : TM} {la : LM} {pos p p2 pos2 : Pos} {x y : Str} {k : Nat}
/-! ### d[k] = e -/
def sPut (i : Nat) (mk mv : TM) : SM := fun δ κ => mv δ (fun v => ∃ ds, δ[i]? = some (.m (.dict ds)) ∧ mk δ (fun kd => ∃ key : Key, kd = keyD key ∧ ds.length < sizeLine ∧ κ.nx (δ.set i (.m (.dict (putD ds key v))))) (κ.er δ)) (κ.er δ)
theorem ds_put (i : Nat) {ie : Expr} {p1 : Pos} (hu : X.A.units + 1 < cLine) (ho : PE X (.Name x p) (tVar i)) (hi : DE X W ie bb mk) (hv : DE X W e false ma) (hs : swapsWith e (some (.Subscript (.Name x p) ie p1)) pos.line X.env = pure false := by rfl) :
    DS X W (.Assign [.Subscript (.Name x p) ie p1] e pos) (sPut i mk ma) :=
  PS.imp (ps_dput hu ho hi hv hs) fun D σ H ⟨F, own, δ, κ, E, h, L⟩ => by
    refine ⟨F, own, δ, _, _, L.at E, h, fun d v H1 ⟨ds, hd, m1⟩ s1 r1 => ?_⟩
    have E1 := E.grow s1
    obtain ⟨a, kvs, e1, ha, h1, h2, h3⟩ := E1.dic hd
    refine ⟨_, e1, F, own, δ, _, _, (L.at E).on s1, m1, fun kd kv H2 ⟨key, ek, hz, m2⟩ s2 r2 => ?_⟩
    subst ek
    have ekv := kV_of r2
    subst ekv
    have h1' := s2 _ _ h1
    have hz' : kvs.length < sizeLine := by rw [h3.len]; exact hz
    refine ⟨a, _, rfl, .inl ⟨kvs, key, h1', rfl, hz', rfl⟩, L.nx _ _ own _ ((E1.grow s2).put hd e1 h1' (.md (E.sep a ha) upd_same ?_ ?_)) m2⟩
    · have := putK_len kvs key v
      omega
    · rw [sub_upd (List.mem_append_right _ ha)]
      exact (h3.mono (sub_same s2)).put (r1.clean.mono (sub_same s2))
/-! ### d[k] -/
def mDGet (ma mk : TM) : TM := fun δ Q E => ma δ (fun d => mk δ (fun kd => ∃ ds : List (Key × D), d = .dict ds ∧ ∃ key : Key, kd = keyD key ∧ ∃ v : D, valD ds key = some v ∧ Q v) E) E
theorem de_dget {ie : Expr} (hu : X.A.units + 1 < cLine) (ho : DE X W o ba ma) (hi : DE X W ie bb mk) (hs : NoSl ie) : DE X W (.Subscript o ie pos) false (mDGet ma mk) :=
  PE.imp (pe_dget hu ho hi hs) fun σ H Q ⟨F, own, δ, P, EK, A, m, q⟩ => ⟨F, own, δ, _, EK, A, m, fun d v H1 m1 s1 r1 => ⟨F, own, δ, _, EK, A.on s1, m1, fun kd kv H2 ⟨ds, ed, key, ek, w, hv, m2⟩ s2 r2 => by
    subst ed ek
    have ekv := kV_of r2
    subst ekv
    obtain ⟨a, kvs, rfl, h1, h2, h3⟩ := (r1.mono s2.ob).dict
    obtain ⟨u, hu', ru⟩ := h3.val key hv
    exact ⟨a, u, rfl, .inl ⟨kvs, key, h1, rfl, hu'.symm⟩, q _ _ H2 m2 (s1.trans s2) (.cl ru)⟩⟩⟩
end
/-! ### d.get(k), d.get(k, e) -/
def mDGet2 (ma mk mv : TM) : TM := fun δ Q E => ma δ (fun d => ∃ ds : List (Key × D), d = .dict ds ∧ mk δ (fun kd => mv δ (fun v => ∃ key : Key, kd = keyD key ∧ Q ((valD ds key).getD v)) E) E) E
theorem de_dget2 {apos : Pos} (hu : X.A.units + 1 < cLine) (ho : DE X W o ba ma) (hi : DE X W e bb mk) (hv : DE X W e2 false mc) (m : M2 X o "get" apos e e2 pos) : DE X W (.Call (.Attribute o "get" apos) [e, e2] [] pos) false (mDGet2 ma mk mc) :=
  PE.imp (pe_dget2 hu ho hi hv m) fun σ H Q ⟨F, own, δ, P, EK, A, mm, q⟩ => ⟨F, own, δ, _, EK, A, mm, fun d v H1 ⟨ds, ed, m1⟩ s1 r1 => by
    subst ed
    obtain ⟨a, kvs, rfl, h1, h2, h3⟩ := r1.dict
    refine ⟨a, rfl, .inl ⟨kvs, h1⟩, F, own, δ, _, EK, A.on s1, m1, fun kd kv H2 m2 s2 r2 => ⟨F, own, δ, _, EK, A.on (s1.trans s2), m2, fun vd vv H3 ⟨key, ek, m3⟩ s3 r3 => ?_⟩⟩
    subst ek
    have ekv := kV_of r2
    subst ekv
    have h1' := rdMono (s2.trans s3).ob h1
    have h3' := h3.mono (sub_same (s2.trans s3).ob)
    refine ⟨valV kvs key, .inl ⟨kvs, key, h1', rfl, rfl⟩, ?_⟩
    cases e : valD ds key with
    | some w =>
      rw [e] at m3
      obtain ⟨u, hu', ru⟩ := h3'.val key e
      rw [hu']
      exact q _ _ H3 m3 ((s1.trans s2).trans s3) (.cl ru)
    | none =>
      rw [e] at m3
      rw [h3'.none key e]
      exact q _ _ H3 m3 ((s1.trans s2).trans s3) r3⟩
/-! ### the lock -/
theorem itok_keys {K : PySem.W.Frag} {Hg Hb Hr : Hp} {a : Addr} {od : Obj} {kvs : List (Key × V)} {ds : List (Key × D)} (h : Hg a = some (.frz od (.dK kvs))) (hz : kvs.length ≤ sizeLine) (r : RepKs K Hr kvs ds) : ItOk K (Itk a od kvs) Hg Hb (ds.map fun kv => keyD kv.1) where
  sz := by rw [List.length_map, ← r.len]; exact hz
  go := fun i H s hi => ⟨s _ _ h, by rw [List.length_map, ← r.len] at hi; exact hi⟩
  stop := fun i H s hi => ⟨s _ _ h, by rw [List.length_map, ← r.len] at hi; omega⟩
  yld := fun i H x H' ls s sb ht hi ⟨eH, k, v, ek, ex⟩ => by
    subst eH ex
    have key : ∀ {vs : List (Key × V)} {es : List (Key × D)} (n : Nat), RepKs K Hr vs es → vs[n]? = some (k, v) → (es.map fun kv => keyD kv.1)[n]? = some (keyD k) := fun {vs es} => by
      induction vs generalizing es with
      | nil => intro n _ z; simp at z
      | cons w vs ih =>
        intro n r z
        cases r with
        | cons h1 rt =>
          cases n with
          | zero => cases z; rfl
          | succ n => exact ih n rt (by simpa using z)
    refine ⟨keyD k, key i r ek, Same.refl _, ?_⟩
    cases k with
    | inl i => exact .int i
    | inr z => exact .str z
section
variable {X : Cx} {W : WX} {pos p : Pos} {x : Str}
theorem Same.unlock {H H' : Hp} {a : Addr} {o u u' : HO} (h : H a = some o) (s : Same (upd H a u) H') (h' : H' a = some u') (p : Plain o := by exact plain_of) (p' : Plain u' := by exact plain_of) : Same H (upd H' a o) := by
  refine ⟨⟨fun b w q n => ?_⟩, fun t z hz => TabS.put h' p'.1 p'.2 (s.tb (fun y hy => TabS.put h p.1 p.2 (t y hy)) z hz), fun b z => ?_⟩
  · by_cases hb : b = a
    · rw [hb] at q ⊢
      rw [upd_same, ← q, h]
    · rw [upd_ne hb]
      exact s.ob.get b w (by rw [upd_ne hb]; exact q) n
  · by_cases hb : b = a
    · rw [hb, upd_same] at z; cases z
    · rw [upd_ne hb] at z
      have := s.ne b z
      rwa [upd_ne hb] at this
/-- [elt for tg in d if ..], d one's own dict; what comes are ints -/
def mCompK (i : Nat) (vs : List Nat) (g : GM) (mt : BM) (me : TM) : TM := fun δ Q E => ∃ ds : List (Key × D), δ[i]? = some (.m (.dict ds)) ∧ compL g mt me (wipeD (δ.set i (.v (.dict ds))) vs) (ds.map fun kv => keyD kv.1) [] (fun d => ∃ ns : List Int, d = .list (ns.map .int) ∧ Q d)
theorem df_compK (i : Nat) {elt tg : Expr} {ifs : List Expr} {scope : Scope} {own : List (Str × Nat)} {g : GM} {mt : BM} {me : TM} (hc : X.calm = true) (hN : X.N.Nodup) (ho : PE X (.Name x p) (tVar i)) (ok : BlkOk X.N X.env.scope scope own)
    (hg : ∀ (s : Shared) (H : Hp) (C : Addr) (cl : List (Str × Addr)) (fp : List Addr), DGw (X.blk s H scope (compEnvC scope cl C X.env) fp) (own.map (·.2)) tg g) (ht : ∀ (s : Shared) (H : Hp) (C : Addr) (cl : List (Str × Addr)) (fp : List Addr), DTs (X.blk s H scope (compEnvC scope cl C X.env) fp) NoW ifs mt)
    (he : ∀ (s : Shared) (H : Hp) (C : Addr) (cl : List (Str × Addr)) (fp : List Addr), DE (X.blk s H scope (compEnvC scope cl C X.env) fp) NoW elt false me) (hs : ∀ x', foldedSetIterable (.Name x p) X.env x' = pure x' := by intro _; rfl) :
    DF X W (.ListComp elt [⟨tg, .Name x p, ifs, 0⟩] scope pos) (mCompK i (own.map (·.2)) g mt me) :=
  PE.imp (pe_lock (pe_lc (g := tgw X.K (List.map (fun x : Str × Nat => x.2) own) g) (tt := tb X.K NoW mt) (te := tm X.K NoW false me) hc hN (pi_keys ho) ok hg ht he hs)) fun σ H Q ⟨F, ow, δ, P, EK, A, m, q⟩ => by
    obtain ⟨ds, hδ, m⟩ := m
    obtain ⟨a, kvs, e1, ha, h1, h2, h3⟩ := A.env.dic hδ
    refine ⟨a, .dK kvs, h1, trivial, fun od => ?_⟩
    obtain ⟨own', E'⟩ := A.env.lockd hδ e1 h1 h2 h3 od
    have rd := lc_reading (W := NoW) (ba := true) (tg := tg) (it := .Name x p) (K := X.K) (own := own) (mi := fun (_ : List DV) (P : List D → Prop) (_ : Er → Prop) => P (ds.map fun kv : Key × D => keyD kv.1)) (g := g) (mt := mt) (me := me) (σ := σ) (H := upd H a (.frz od (.dK kvs)))
      (Q := fun v H' => H' a = some (.frz od (.dK kvs)) ∧ Q v (upd H' a (.dK kvs))) ⟨F, _, _, fun d => ∃ ns : List Int, d = .list (ns.map .int) ∧ P d, NoE, ⟨E', noPass⟩, m, fun d l H' ⟨ns, ed, pd⟩ hl s r => by
        obtain rfl := D.list.inj ed
        have fz := s _ _ (upd_same (H := H) (a := a) (o := .frz od (.dK kvs)))
        have la : l ≠ a := fun z => by rw [z, upd_same] at hl; cases hl
        refine ⟨fz, q _ l _ pd (by rw [upd_ne la] at hl; exact hl) (Same.unlock h1 s fz) ?_⟩
        cases r with
        | l g1 g2 g3 =>
          have ex := g3.of_ints
          subst ex
          exact .l (by rw [upd_ne la]; exact g1) g2 (Reps.ints ns)⟩
    obtain ⟨F2, own2, δ2, P2, EK2, A2, m2, q2⟩ := rd
    refine ⟨_, e1, a, od, rfl, .inl ⟨kvs, upd_same, q2 _ (Itk a od kvs) _ m2 (Same.refl _) ?_⟩⟩
    exact itok_keys upd_same h2 h3
end
/-! ### walks over a dict that stays -/
theorem RepKs.get {K : PySem.W.Frag} {H : Hp} : ∀ {vs : List (Key × V)} {ds : List (Key × D)} {i : Nat} {k : Key} {v : V}, RepKs K H vs ds → vs[i]? = some (k, v) → ∃ d, ds[i]? = some (k, d) ∧ Rep K H v d
  | _, _, _, _, _, .nil, e => by simp at e
  | _, _, 0, _, _, .cons r _, e => by cases e; exact ⟨_, rfl, r⟩
  | _, _, i + 1, _, _, .cons _ t, e => by
    obtain ⟨d, h1, h2⟩ := RepKs.get (i := i) t (by simpa using e)
    exact ⟨d, by simpa using h1, h2⟩
theorem rep_key {K : PySem.W.Frag} {H : Hp} (k : Key) : Rep K H (kV k) (keyD k) := by
  cases k with
  | inl i => exact .int i
  | inr z => exact .str z
def pairKD (kv : Key × D) : D := .tup [keyD kv.1, kv.2]
theorem itok_vals {K : PySem.W.Frag} {Hg Hb : Hp} {a : Addr} {od : Obj} {kvs : List (Key × V)} {ds : List (Key × D)} (h : Hg a = some (.frz od (.dK kvs))) (hz : kvs.length ≤ sizeLine) (r : RepKs K Hb kvs ds) : ItOk K (Itd a od kvs) Hg Hb (ds.map (·.2)) where
  sz := by rw [List.length_map, ← r.len]; exact hz
  go := fun i H s hi => ⟨s _ _ h, by rw [List.length_map, ← r.len] at hi; exact hi⟩
  stop := fun i H s hi => ⟨s _ _ h, by rw [List.length_map, ← r.len] at hi; omega⟩
  yld := fun i H x H' ls s sb ht hi ⟨eH, k, ek⟩ => by
    subst eH
    obtain ⟨d, h1, h2⟩ := r.get ek
    exact ⟨d, by rw [List.getElem?_map, h1]; rfl, Same.refl _, h2.mono sb⟩
theorem itok_items {K : PySem.W.Frag} {Hg Hb : Hp} {a : Addr} {od : Obj} {kvs : List (Key × V)} {ds : List (Key × D)} (h : Hg a = some (.frz od (.dK kvs))) (hz : kvs.length ≤ sizeLine) (r : RepKs K Hb kvs ds) : ItOk K (Iti a od kvs) Hg Hb (ds.map pairKD) where
  sz := by rw [List.length_map, ← r.len]; exact hz
  go := fun i H s hi => ⟨s _ _ h, by rw [List.length_map, ← r.len] at hi; exact hi⟩
  stop := fun i H s hi => ⟨s _ _ h, by rw [List.length_map, ← r.len] at hi; omega⟩
  yld := fun i H x H' ls s sb ht hi ⟨T, k, v, ek, ex, hT, eH⟩ => by
    subst ex eH
    obtain ⟨d, h1, h2⟩ := r.get ek
    exact ⟨pairKD (k, d), by rw [List.getElem?_map, h1]; rfl, same_upd hT, new_tup ht hT (by show 2 ≤ sizeLine; rw [sizeLine_eq]; decide) (.cons (rep_key k) (.cons (h2.mono sb) .nil))⟩
theorem RV.plainDict {K : PySem.W.Frag} {fo ls : List Addr} {H : Hp} {v : V} {ds : List (Key × D)} (r : RV K fo ls H false v (.dict ds)) : ∃ a od kvs, v = .ref a ∧ sub H ls a = some (.frz od (.dK kvs)) ∧ kvs.length ≤ sizeLine ∧ RepKs K (sub H ls) kvs ds := by
  cases r with
  | cl r =>
    cases r with
    | dict h l r => exact ⟨_, _, _, rfl, h, l, r⟩
theorem flo_at {H : Hp} {ls : List Addr} {a : Addr} {u : HO} {b : Bool} (h : sub H ls a = some u) (n : isTbl u = false := by rfl) : flo b H ls a = some u := by
  unfold flo
  split
  · exact sub_le.get _ _ h n
  · exact h
def mKeys (ma : TM) : LM := fun δ P E => ma δ (fun d => ∃ ds : List (Key × D), d = .dict ds ∧ P (ds.map fun kv => keyD kv.1)) E
def mVals (ma : TM) : LM := fun δ P E => ma δ (fun d => ∃ ds : List (Key × D), d = .dict ds ∧ P (ds.map (·.2))) E
def mItems (ma : TM) : LM := fun δ P E => ma δ (fun d => ∃ ds : List (Key × D), d = .dict ds ∧ P (ds.map pairKD)) E
section
variable {X : Cx} {W : WX} {e tg : Expr} {ba : Bool} {ma : TM} {apos cpos : Pos}
theorem di_keys (he : DE X W e false ma) : DI X W tg e ba (mKeys ma) :=
  PI.imp (pi_keys he) fun σ H R ⟨F, own, δ, P, EK, A, m, q⟩ => ⟨F, own, δ, _, EK, A, m, fun d v H1 ⟨ds, ed, p⟩ s r => by
    subst ed
    obtain ⟨a, od, kvs, rfl, h1, h2, h3⟩ := r.plainDict
    exact ⟨a, od, rfl, .inl ⟨kvs, sub_le _ _ h1, q _ _ H1 p s (itok_keys (flo_at h1) h2 h3)⟩⟩⟩
theorem di_vals (he : DE X W e false ma) (hbase : attributeBase e "values" X.env (eval e X.env) = eval e X.env := by rfl) (hline : (apos.endLine == cpos.line) = true := by rfl) : DI X W tg (.Call (.Attribute e "values" apos) [] [] cpos) ba (mVals ma) :=
  PI.imp (pi_values he hbase hline) fun σ H R ⟨F, own, δ, P, EK, A, m, q⟩ => ⟨F, own, δ, _, EK, A, m, fun d v H1 ⟨ds, ed, p⟩ s r => by
    subst ed
    obtain ⟨a, od, kvs, rfl, h1, h2, h3⟩ := r.plainDict
    exact ⟨a, od, kvs, rfl, sub_le _ _ h1, q _ _ H1 p s (itok_vals (flo_at h1) h2 h3)⟩⟩
theorem di_items {elts : List Expr} {kk : Nat} {tpos : Pos} (he : DE X W e false ma) (hbase : attributeBase e "items" X.env (eval e X.env) = eval e X.env := by rfl) (hline : (apos.endLine == cpos.line) = true := by rfl) : DI X W (.Tuple elts kk tpos) (.Call (.Attribute e "items" apos) [] [] cpos) ba (mItems ma) :=
  PI.imp (pi_items he hbase hline) fun σ H R ⟨F, own, δ, P, EK, A, m, q⟩ => ⟨F, own, δ, _, EK, A, m, fun d v H1 ⟨ds, ed, p⟩ s r => by
    subst ed
    obtain ⟨a, od, kvs, rfl, h1, h2, h3⟩ := r.plainDict
    exact ⟨a, od, kvs, rfl, sub_le _ _ h1, q _ _ H1 p s (itok_items (flo_at h1) h2 h3)⟩⟩
end
end DL

set_option Elab.async false
set_option linter.all false
set_option maxRecDepth 100000
set_option maxHeartbeats 4000000
/-! DL21: instances of own classes: fields, methods, properties, making. -/
namespace DL
open PySem PySem.Spec PyProof.Rows L2
variable [TabsC]
theorem RV.obj {K : PySem.W.Frag} {fo ls : List Addr} {H : Hp} {b : Bool} {v : V} {n : Str} {ds : List (Str × D)} (r : RV K fo ls H b v (.obj n ds)) : ∃ C a dx fs, PySem.W.nsIn K mainGlobals n = some (some (.ref C)) ∧ v = .ref a ∧ H a = some (.ins C dx fs) ∧ RepFs K (sub H ls) fs ds := by
  cases r with
  | cl r =>
    cases r with
    | obj c h r => exact ⟨_, _, _, _, c, rfl, sub_le _ _ h, r⟩
  | mo _ c h r => exact ⟨_, _, _, _, c, rfl, h, r⟩
theorem RepFs.get {K : PySem.W.Frag} {H : Hp} {f : Str} : ∀ {vs : List (Str × V)} {ds : List (Str × D)} {d : D}, RepFs K H vs ds → ds.lookup f = some d → ∃ v, vs.lookup f = some v ∧ Rep K H v d
  | _, _, _, .nil, e => by cases e
  | _, _, _, @RepFs.cons _ _ g v vs d ds h r, e => by
    rw [List.lookup_cons] at e ⊢
    cases hb : f == g with
    | true =>
      rw [hb] at e
      cases e
      exact ⟨v, rfl, h⟩
    | false =>
      rw [hb] at e
      exact RepFs.get r e
theorem RepFs.miss {K : PySem.W.Frag} {H : Hp} {f : Str} : ∀ {vs : List (Str × V)} {ds : List (Str × D)}, RepFs K H vs ds → ds.lookup f = none → vs.lookup f = none
  | _, _, .nil, _ => rfl
  | _, _, @RepFs.cons _ _ g v vs d ds h r, e => by
    rw [List.lookup_cons] at e ⊢
    cases hb : f == g with
    | true => rw [hb] at e; cases e
    | false =>
      rw [hb] at e
      exact RepFs.miss r e
theorem RepFs.len {K : PySem.W.Frag} {H : Hp} : ∀ {vs : List (Str × V)} {ds : List (Str × D)}, RepFs K H vs ds → vs.length = ds.length
  | _, _, .nil => rfl
  | _, _, .cons _ r => by rw [List.length_cons, List.length_cons, RepFs.len r]
def putFD (f : Str) (y : D) : List (Str × D) → List (Str × D)
  | [] => [(f, y)]
  | (g, x) :: r => if g = f then (g, y) :: r else (g, x) :: putFD f y r
theorem RepFs.put {K : PySem.W.Frag} {H : Hp} {f : Str} {y : V} {d : D} (h : Rep K H y d) : ∀ {vs : List (Str × V)} {ds : List (Str × D)}, RepFs K H vs ds → RepFs K H (putF f y vs) (putFD f d ds)
  | _, _, .nil => .cons h .nil
  | _, _, @RepFs.cons _ _ g v vs d' ds h' r => by
    unfold putF putFD
    by_cases e : g = f
    · rw [if_pos e, if_pos e]; exact .cons h r
    · rw [if_neg e, if_neg e]; exact .cons h' (RepFs.put h r)
section
variable {X : Cx} {W : WX} {a b c e e2 o : Expr} {es : List Expr} {ba bb : Bool} {ma mb mo : TM} {la : LM} {pos p apos : Pos} {n f mn x : Str} {k : Nat} {C g q0 : Addr} {m : FM} {mm : MM}
/-! ### e.f -/
def mFld (n : Str) (ma : TM) (f : Str) : TM := fun δ Q E => ma δ (fun d => ∃ ds : List (Str × D), d = .obj n ds ∧ ∃ v : D, ds.lookup f = some v ∧ Q v) E
theorem de_fld (hC : PySem.W.nsIn X.K mainGlobals n = some (some (.ref C))) (cl : Cls X.K C) (na : NoAttr X.K C f) (he : DE X W e ba ma) (hb : attributeBase e f X.env (eval e X.env) = eval e X.env := by rfl) : DE X W (.Attribute e f pos) false (mFld n ma f) :=
  PE.imp (pe_fld he hb) fun σ H Q ⟨F, own, δ, P, EK, A, m, q⟩ => ⟨F, own, δ, _, EK, A, m, fun d v H1 ⟨ds, ed, w, hl, m1⟩ s1 r1 => by
    subst ed
    obtain ⟨C', a, dx, fs, hC', rfl, h1, h2⟩ := r1.obj
    rw [hC] at hC'
    cases hC'
    obtain ⟨u, hu, ru⟩ := h2.get hl
    exact ⟨a, C, dx, fs, u, rfl, h1, cl, na, hu, q _ _ H1 m1 s1 (.cl ru)⟩⟩
/-- self.f of a self that is lent -/
def mSFld (i : Nat) (n f : Str) : TM := fun δ Q _ => ∃ ds : List (Str × D), δ[i]? = some (.s (.obj n ds)) ∧ ∃ v : D, ds.lookup f = some v ∧ Q v
theorem de_sfld (i : Nat) (hC : PySem.W.nsIn X.K mainGlobals n = some (some (.ref C))) (cl : Cls X.K C) (na : NoAttr X.K C f) (hv : PE X (.Name x p) (tVar i)) (hb : attributeBase (.Name x p) f X.env (eval (.Name x p) X.env) = eval (.Name x p) X.env := by rfl) : DE X W (.Attribute (.Name x p) f pos) false (mSFld i n f) :=
  PE.imp (pe_fld hv hb) fun σ H Q ⟨F, own, δ, P, EK, A, ⟨ds, e, w, hl, m⟩, q⟩ => by
    obtain ⟨s, hs, a, C', dx, n', fs, ds', rfl, ha, ed, hC', h1, h2⟩ := A.env.slot i _ e
    cases ed
    rw [hC] at hC'
    cases hC'
    obtain ⟨u, hu, ru⟩ := h2.get hl
    exact ⟨_, hs, a, C, dx, fs, u, rfl, h1, cl, na, hu, q _ _ H m (Same.refl H) (.cl ru)⟩
/-! ### o.f = e, o one's own or lent -/
def sFld (i : Nat) (n f : Str) (ma : TM) : SM := fun δ k => ma δ (fun v => ∃ ds : List (Str × D), ds.length < 900 ∧ ((δ[i]? = some (.s (.obj n ds)) ∧ k.nx (δ.set i (.s (.obj n (putFD f v ds))))) ∨ (δ[i]? = some (.m (.obj n ds)) ∧ k.nx (δ.set i (.m (.obj n (putFD f v ds))))))) (k.er δ)
theorem own_obj {K : PySem.W.Frag} {F : Fm} {own : List Addr} {σ : L2.St} {δ : List DV} {H : Hp} (E : EnvD K F own σ δ H) {i : Nat} {n : Str} {ds : List (Str × D)} (h : δ[i]? = some (.m (.obj n ds))) : ∃ C a dx fs, PySem.W.nsIn K mainGlobals n = some (some (.ref C)) ∧ σ[i]? = some (some (.ref a)) ∧ a ∈ own ∧ H a = some (.ins C dx fs) ∧ RepFs K (sub H (F.ls0 ++ own)) fs ds := by
  obtain ⟨s, e1, a, rfl, ha, r⟩ := E.slot i _ h
  cases r with
  | cl r =>
    cases r with
    | obj c h1 r => rw [sub_in (List.mem_append_right _ ha)] at h1; cases h1
  | mo _ c h1 r => exact ⟨_, a, _, _, c, e1, ha, h1, r⟩
theorem ds_fld (i : Nat) {value : Expr} {pos' : Pos} (hC : PySem.W.nsIn X.K mainGlobals n = some (some (.ref C))) (cl : Cls X.K C) (na : NoAttr X.K C f) (hv : PE X (.Name x p) (tVar i)) (he : DE X W value false ma) (hs : swapsWith value (some (.Attribute (.Name x p) f pos')) pos.line X.env = pure false := by rfl) :
    DS X W (.Assign [.Attribute (.Name x p) f pos'] value pos) (sFld i n f ma) :=
  PS.imp (ps_fld hv he hs) fun D σ H ⟨F, own, δ, κ, E, h, L⟩ => ⟨F, own, δ, _, _, L.at E, h, fun v y H1 ⟨ds, hl, m1⟩ s1 r1 => by
    have E1 := E.grow s1
    rcases m1 with ⟨e, m1⟩ | ⟨e, m1⟩
    · obtain ⟨s, hs, a, C', dx, n', fs, ds', rfl, ha, ed, hC', h1, h2⟩ := E1.slot i _ e
      cases ed
      rw [hC] at hC'
      cases hC'
      have hin : a ∈ F.ls0 ++ own := List.mem_append_left _ ha
      refine ⟨_, hs, a, C, dx, fs, rfl, h1, cl, na, by rw [h2.len]; omega, L.nx σ _ own _ (E1.turnS e hs h1 same_put hC upd_same ?_) m1⟩
      rw [sub_upd hin]
      exact h2.put r1.clean
    · obtain ⟨C', a, dx, fs, hC', hs, ha, h1, h2⟩ := own_obj E1 e
      rw [hC] at hC'
      cases hC'
      refine ⟨_, hs, a, C, dx, fs, rfl, h1, cl, na, by rw [h2.len]; omega, L.nx σ _ own _ (E1.put e hs h1 (.mo (E1.sep a ha) hC upd_same ?_)) m1⟩
      rw [sub_upd (List.mem_append_right _ ha)]
      exact h2.put r1.clean⟩
/-! ### o.m(e, ..), o plain -/
def mMeth (n mn : Str) (m : FM) (mo : TM) (la : LM) : TM := fun δ Q E => mo δ (fun d => ∃ fs : List (Str × D), d = .obj n fs ∧ fs.lookup mn = none ∧ la δ (fun ds => m (d :: ds) Q E) E) E
theorem de_meth {pl : Sem Bool} (hC : PySem.W.nsIn X.K mainGlobals n = some (some (.ref C))) (cl : Cls X.K C) (F : FnD X.prog X.w X.K X.mg X.base k g m) (hm : Meth X.K C mn g) (hG : GdOk X.A X.base) (hr : Room k X.A) (tk : Takes X W)
    (ho : DE X W o ba mo) (hcl : ba = false) (ha : DA X W (e :: es) false la) (hst : starEach (e :: es) X.env = (false, eval e X.env) :: starEach es X.env := by rfl) (hpl : (backTo pos (starEach es X.env)).any (·.1) = false := by rfl)
    (ht : eval (.Call (.Attribute o mn apos) (e :: es) [] pos) X.env = (do
      let ov ← eval o X.env
      standAt apos.atName
      let (f, first) ← holding [ov] (getMethod ov mn pl)
      callWith pos f first (backTo pos (starEach (e :: es) X.env)) (backToKw pos (keywordEach [] X.env))) := by rfl) : DE X W (.Call (.Attribute o mn apos) (e :: es) [] pos) false (mMeth n mn m mo la) := by
  subst hcl
  refine ⟨fun pins s σ H Q I ⟨FF, own, δ, P, EK, A, mm, q⟩ => ?_⟩
  refine PySem.W.methodCall_KW (pl := pl) (thn (ho.run pins s σ H (fun x H1 => ∃ fs : List (Str × D), fs.lookup mn = none ∧ (la δ (fun ds => m (.obj n fs :: ds) P EK) EK) ∧ Same H H1 ∧ Rep X.K (sub H1 (FF.ls0 ++ own)) x (.obj n fs)) I ⟨FF, own, δ, _, EK, A, mm, fun d v H1 ⟨fs, ed, hl0, m1⟩ s1 r1 => by
    subst ed
    exact ⟨fs, hl0, m1, s1, r1.clean⟩⟩) fun u s1 ⟨x, H1, I1, rx, fs, hl0, m1, s01, ro⟩ => ?_) ht
  obtain ⟨C', a, dx, vs, hC', rfl, h1, h2⟩ := (RV.cl ro : RV X.K FF.ls0 _ H1 false x _).obj
  rw [hC] at hC'
  cases hC'
  obtain rfl : u = Value.ref a := rx
  refine getmeth_ok I1 h1 cl hm (h2.miss hl0) ?_
  have A0 := A.on s01
  refine PySem.W.callWith_K (first := [.ref a]) (h₀ := X.base) I1.ok.mod.kin hm.kp (thn (ha.run pos pins s1 σ H1 (fun vs H2 => ∃ ds, m (.obj n fs :: ds) P EK ∧ Same H1 H2 ∧ RVs X.K FF.ls0 (FF.ls0 ++ own) H2 false vs ds) I1
    ⟨FF, own, δ, _, EK, A0, m1, fun ds vs H2 p1 s2 r2 => ⟨ds, p1, s2, r2⟩⟩) fun us s2 ⟨ws, H2, I2, rv, ds, hm1, s12, rr⟩ => ⟨I2.kIn, ?_⟩) hst hpl
  have A2 := A0.on s12
  exact runP (us := .ref a :: us) (vs := .ref a :: ws) F hG hr tk (E := fun cls dd H' => W cls dd σ H') (fun _ _ _ h => h) I2 (.cons rfl rv)
    ⟨FF.ls0 ++ own, .obj n fs :: ds, P, EK, A2.env.trk, A2.tabs, .cons (ro.mono (sub_same s12.ob)) rr.clean, hm1, fun d v H' pd s3 r3 => q d v H' pd ((s01.trans s12).trans s3) (.cl r3), fun er cls dd H' ke s3 r3 => A2.pass er cls dd H' ke s3 r3⟩
def mMeth0 (n mn : Str) (m : FM) (mo : TM) : TM := fun δ Q E => mo δ (fun d => ∃ fs : List (Str × D), d = .obj n fs ∧ fs.lookup mn = none ∧ m [d] Q E) E
theorem de_meth0 {pl : Sem Bool} (hC : PySem.W.nsIn X.K mainGlobals n = some (some (.ref C))) (cl : Cls X.K C) (F : FnD X.prog X.w X.K X.mg X.base k g m) (hm : Meth X.K C mn g) (hG : GdOk X.A X.base) (hr : Room k X.A) (tk : Takes X W) (ho : DE X W o ba mo) (hcl : ba = false)
    (ht : eval (.Call (.Attribute o mn apos) [] [] pos) X.env = (do
      let ov ← eval o X.env
      standAt apos.atName
      let (f, first) ← holding [ov] (getMethod ov mn pl)
      callWith pos f first (backTo pos (starEach [] X.env)) (backToKw pos (keywordEach [] X.env))) := by rfl) : DE X W (.Call (.Attribute o mn apos) [] [] pos) false (mMeth0 n mn m mo) := by
  subst hcl
  refine ⟨fun pins s σ H Q I ⟨FF, own, δ, P, EK, A, mm, q⟩ => ?_⟩
  refine PySem.W.methodCall_KW (pl := pl) (thn (ho.run pins s σ H (fun x H1 => ∃ fs : List (Str × D), fs.lookup mn = none ∧ m [.obj n fs] P EK ∧ Same H H1 ∧ Rep X.K (sub H1 (FF.ls0 ++ own)) x (.obj n fs)) I ⟨FF, own, δ, _, EK, A, mm, fun d v H1 ⟨fs, ed, hl0, m1⟩ s1 r1 => by
    subst ed
    exact ⟨fs, hl0, m1, s1, r1.clean⟩⟩) fun u s1 ⟨x, H1, I1, rx, fs, hl0, m1, s01, ro⟩ => ?_) ht
  obtain ⟨C', a, dx, vs, hC', rfl, h1, h2⟩ := (RV.cl ro : RV X.K FF.ls0 _ H1 false x _).obj
  rw [hC] at hC'
  cases hC'
  obtain rfl : u = Value.ref a := rx
  refine getmeth_ok I1 h1 cl hm (h2.miss hl0) ?_
  have A0 := A.on s01
  exact PySem.W.callWith_K0 I1.kIn hm.kp (runP (us := [.ref a]) (vs := [.ref a]) F hG hr tk (E := fun cls dd H' => W cls dd σ H') (fun _ _ _ h => h) I1 (.cons rfl .nil)
    ⟨FF.ls0 ++ own, [.obj n fs], P, EK, A0.env.trk, A0.tabs, .cons ro .nil, m1, fun d v H' pd s3 r3 => q d v H' pd (s01.trans s3) (.cl r3), fun er cls dd H' ke s3 r3 => A0.pass er cls dd H' ke s3 r3⟩)
/-! ### e.f, a property -/
def mProp (n : Str) (m : FM) (ma : TM) : TM := fun δ Q E => ma δ (fun d => ∃ fs : List (Str × D), d = .obj n fs ∧ m [d] Q NoE) E
theorem CR_none {P : Program} {w : World} {outer : List Env} {H : Hp} {s s' : Shared} {Q : VK} {e : Value} {E : XK} (hE : ∀ cls dd H', ¬ E cls dd H') (h : CR (L2.CX P w) outer P w H s Q E (.error e) s') : False := by
  obtain ⟨_, _, _, _, _, _, _, _, _, _, _, _, z⟩ := h
  exact hE _ _ _ z
theorem de_prop {pp gg : Addr} (hC : PySem.W.nsIn X.K mainGlobals n = some (some (.ref C))) (cl : Cls X.K C) (hp : PropOf X.K C f pp gg) (F : FnD X.prog X.w X.K X.mg X.base k gg m) (hG : GdOk X.A X.base) (hr : Room (k + 1) X.A) (he : DE X W e ba ma) (hcl : ba = false)
    (hab : attributeBase e f X.env (eval e X.env) = eval e X.env := by rfl) : DE X W (.Attribute e f pos) false (mProp n m ma) := by
  subst hcl
  refine ⟨fun pins s σ H Q I ⟨FF, own, δ, P, EK, A, mm, q⟩ => ?_⟩
  refine attr_of hab (thn (he.run pins s σ H (fun x H1 => ∃ fs : List (Str × D), m [.obj n fs] P NoE ∧ Same H H1 ∧ Rep X.K (sub H1 (FF.ls0 ++ own)) x (.obj n fs)) I ⟨FF, own, δ, _, EK, A, mm, fun d v H1 ⟨fs, ed, m1⟩ s1 r1 => by
    subst ed
    exact ⟨fs, m1, s1, r1.clean⟩⟩) fun u s1 ⟨x, H1, I1, rx, fs, m1, s01, ro⟩ => ?_)
  obtain ⟨C', a, dx, vs, hC', rfl, h1, h2⟩ := (RV.cl ro : RV X.K FF.ls0 _ H1 false x _).obj
  rw [hC] at hC'
  cases hC'
  obtain rfl : u = Value.ref a := rx
  have A0 := A.on s01
  obtain ⟨mA, O, _, _, _, _⟩ := ins_get I1.hok h1
  obtain ⟨od, J, _⟩ := O.look
  obtain ⟨rest, hrec⟩ := hp.rec_
  have I2 := I1.tok (s1.toks + 1)
  have hcc : (PySem.W.clsIn X.K C).isSome = true := by
    obtain ⟨cd, hc, _⟩ := PySem.W.any_some cl.hd
    rw [hc]
    rfl
  refine PySem.W.get_bind I1.kIn J (PySem.W.plainGet_of (cl.get f)).1 (PySem.W.findObj_data hcc hp.at_ hp.get hp.tak) (PySem.W.plainGet_of (cl.get f)).2 (wpAny_call (PySem.W.prop_get (s := { s1 with toks := s1.toks + 1 }) I1.kIn hrec ?_))
  have sp : spD X.K m [.ref a] H1 (fun v H' => Q v H') (fun _ _ _ => False) := ⟨FF.ls0 ++ own, [.obj n fs], P, NoE, A0.env.trk, A0.tabs, .cons ro .nil, m1, fun d v H' pd s3 r3 => q d v H' pd (s01.trans s3) (.cl r3), fun _ _ _ _ z => z.elim⟩
  refine codeAny_mono (F X.A.in1 X.stack { s1 with toks := s1.toks + 1 } H1 [.ref a] [.ref a] _ _ hG hr.in1 I2.env0.in1 (.cons rfl .nil) sp) fun r s2 hq => ?_
  cases r with
  | error er => exact (CR_none (fun _ _ _ z => z) hq).elim
  | ok fl =>
    cases fl with
    | ret u =>
      obtain ⟨v, H', I3, rv, q3⟩ := I2.after hq
      show wpAny _ _ (handedOut u) _ _ _
      rw [PySem.W.handedOut_of (handed_of rv)]
      exact wpAny_pure ⟨v, H', I3, rv, q3⟩
    | next => exact False.elim hq
    | brk => exact False.elim hq
    | cont => exact False.elim hq
/-! ### C(e, ..) -/
def mMake (n : Str) (m : MM) (la : LM) : TM := fun δ Q E => la δ (fun ds => m (.obj n []) ds (fun d r => r = .none ∧ Q d) (fun _ er => E er)) E
theorem new_ins {K : PySem.W.Frag} {H : Hp} {x dx C : Addr} {ls : List Addr} (nx : H x = none) (nd : H dx = none) (ne : dx ≠ x) (ht : ∀ l, l ∈ ls → ∃ o, H l = some o ∧ Plain o) : Same H (upd (upd H dx (.own x)) x (.ins C dx [])) ∧ Grow (sub H ls) (sub (upd (upd H dx (.own x)) x (.ins C dx [])) (x :: ls)) := by
  have s : Same H (upd (upd H dx (.own x)) x (.ins C dx [])) := Same.of fun b o q => by
    rw [upd_ne (ne_of_none q nx), upd_ne (ne_of_none q nd)]; exact q
  exact ⟨s, sub_fresh nx s⟩
theorem run_new {f0 : Addr} {pins : List (Addr × Obj)} {σ : L2.St} {H : Hp} {s : Shared} {us : List Value} {vs : List V} {sp : Sp} {Q : VK} {E : XK} (M : Mk X.K C f0) (F : FnP X.prog X.w X.K X.mg X.base k f0 sp) (hG : GdOk X.A X.base) (hr : Room (k + 1) X.A) (tk : Takes X W) (hE : ∀ cls dd H', E cls dd H' → W cls dd σ H') (I : Inv X pins σ H s) (r : Vals vs us)
    (h : ∀ x dx, H x = none → H dx = none → dx ≠ x → sp (V.ref x :: vs) (upd (upd H dx (.own x)) x (.ins C dx [])) (fun v H2 => v = .non ∧ Q (.ref x) H2) E) : wpAny (model X.prog X.w) X.A (call (.ref C) us) (EP X pins σ Q) X.xe s := by
  have hq := h (s.heap.objs.size + 1) s.heap.objs.size (I.hok.fresh (Nat.le_succ _)) (I.hok.fresh (Nat.le_refl _)) (Nat.ne_of_lt (Nat.lt_succ_self _))
  have I2 := Inv.made (C := C) I
  have r2 : Vals (V.ref (s.heap.objs.size + 1) :: vs) (Value.ref (s.heap.objs.size + 1) :: us) := .cons rfl r
  refine wpAny_call (make_map (f := f0) I.kIn M.makes M.init (beq_iff_eq.mp M.fn) (codeAny_mono (F _ X.stack _ _ (Value.ref (s.heap.objs.size + 1) :: us) _ _ E hG (hr.make C us []) (I2.env0.make C us []) r2 hq) fun r s' hq' => ?_))
  cases r with
  | error e => exact tk e s' (XE.of_call I2 hE hq')
  | ok fl =>
    cases fl with
    | ret u =>
      obtain ⟨v, H', I3, rv, ev, q3⟩ := I2.after hq'
      subst ev
      exact ⟨rv, ⟨V.ref (s.heap.objs.size + 1), H', I3, rfl, q3⟩⟩
    | next => exact False.elim hq'
    | brk => exact False.elim hq'
    | cont => exact False.elim hq'
/-- the wish of a making, from data -/
theorem make_sp {σ : L2.St} {H H1 : Hp} {F : Fm} {own : List Addr} {δ : List DV} {P : D → Prop} {EK : Er → Prop} {vs : List V} {ds : List D} {Q : VK} (hC : PySem.W.nsIn X.K mainGlobals n = some (some (.ref C))) (A : At X.K W σ H F own δ EK) (s01 : Same H H1) (rr : Reps X.K (sub H1 (F.ls0 ++ own)) vs ds)
    (m1 : mm (.obj n []) ds (fun d r => r = .none ∧ P d) (fun _ er => EK er)) (q : ∀ d p H', P d → H p = none → Same H H' → FV X.K (p :: (F.ls0 ++ own)) H' p d → Q (.ref p) H') :
    ∀ x dx, H1 x = none → H1 dx = none → dx ≠ x → spM X.K mm (V.ref x :: vs) (upd (upd H1 dx (.own x)) x (.ins C dx [])) (fun v H2 => v = .non ∧ Q (.ref x) H2) (fun cls dd H' => W cls dd σ H') := by
  intro x dx nx nd ne
  have A1 := A.on s01
  obtain ⟨sa, ga⟩ := new_ins (K := X.K) (C := C) nx nd ne A1.env.trk
  have back : ∀ {H' : Hp}, Same (sub (upd (upd H1 dx (.own x)) x (.ins C dx [])) [x]) H' → Same H1 H' := fun {H'} s => by
    have z : Same H1 (sub (upd (upd H1 dx (.own x)) x (.ins C dx [])) [x]) := Same.of fun b o q => by
      rw [sub_out (by simpa using ne_of_none q nx), upd_ne (ne_of_none q nx), upd_ne (ne_of_none q nd)]; exact q
    exact z.trans s
  refine ⟨x :: (F.ls0 ++ own), x, C, dx, n, vs, [], [], ds, _, _, rfl, List.mem_cons_self, fun l hl => ?_, sa.tb A1.tabs, hC, upd_same, .nil, rr.mono ga, m1, fun n' dfs' d v H' C' dx' fs' ⟨ev, pd⟩ hn' s hx rf rv => ?_, fun n' dfs' er cls dd H' C' dx' fs' ke hn' s hx rf re => ?_⟩
  · rcases List.mem_cons.mp hl with rfl | hl
    · exact ⟨_, upd_same, plain_of⟩
    · obtain ⟨o, e, nn⟩ := A1.env.trk l hl
      exact ⟨o, sa.ob.get l o e nn.1, nn⟩
  · subst ev
    have e : v = .non := by cases rv; rfl
    exact ⟨e, q _ x H' pd (s01.free nx) (s01.trans (back s)) (.o hn' hx rf)⟩
  · exact A1.pass er cls dd H' ke (back s) (re.less fun a h => List.mem_cons_of_mem _ h)
theorem df_make {f0 : Addr} (hC : PySem.W.nsIn X.K mainGlobals n = some (some (.ref C))) (M : Mk X.K C f0) (F : FnM X.prog X.w X.K X.mg X.base k f0 mm) (hG : GdOk X.A X.base) (hr : Room (k + 1) X.A) (tk : Takes X W) (hg : Gl X n) (gC : X.mg n = some (.ref C)) (ha : DA X W (e :: es) false la) (hdb : (n == ("__debug__" : Str)) = false := by decide)
    (he : starEach (e :: es) X.env = (false, eval e X.env) :: starEach es X.env := by rfl) (hpl : (backTo pos (starEach es X.env)).any (·.1) = false := by rfl) : DF X W (.Call (.Name n p) (e :: es) [] pos) (mMake n mm la) := by
  refine ⟨fun pins s σ H Q I ⟨FF, own, δ, P, EK, A, m, q⟩ => ?_⟩
  refine wpAny_Call_Name_kw (ld_glob I hg gC ?_ hdb)
  refine PySem.W.callWith_K (h₀ := X.base) I.ok.mod.kin M.kp (thn (ha.run pos pins s σ H (fun vs H1 => ∃ ds, mm (.obj n []) ds (fun d r => r = .none ∧ P d) (fun _ er => EK er) ∧ Same H H1 ∧ Reps X.K (sub H1 (FF.ls0 ++ own)) vs ds) I
    ⟨FF, own, δ, _, EK, A, m, fun ds vs H1 p1 s1 r1 => ⟨ds, p1, s1, r1.clean⟩⟩) fun us s1 ⟨vs, H1, I1, rv, ds, m1, s01, rr⟩ => ⟨I1.kIn, ?_⟩) he hpl
  exact run_new M F hG hr tk (E := fun cls dd H' => W cls dd σ H') (fun _ _ _ h => h) I1 rv (make_sp hC A s01 rr m1 q)
theorem df_make0 {f0 : Addr} (hC : PySem.W.nsIn X.K mainGlobals n = some (some (.ref C))) (M : Mk X.K C f0) (F : FnM X.prog X.w X.K X.mg X.base k f0 mm) (hG : GdOk X.A X.base) (hr : Room (k + 1) X.A) (tk : Takes X W) (hg : Gl X n) (gC : X.mg n = some (.ref C)) (hdb : (n == ("__debug__" : Str)) = false := by decide) : DF X W (.Call (.Name n p) [] [] pos) (mMake n mm mNil) := by
  refine ⟨fun pins s σ H Q I ⟨FF, own, δ, P, EK, A, m, q⟩ => ?_⟩
  refine wpAny_Call_Name_kw (ld_glob I hg gC ?_ hdb)
  exact PySem.W.callWith_K0 I.kIn M.kp (run_new (us := []) (vs := []) M F hG hr tk (E := fun cls dd H' => W cls dd σ H') (fun _ _ _ h => h) I .nil (make_sp hC A (Same.refl H) .nil m q))
/-- C(*e) -/
def mMakeS (n : Str) (m : MM) (ma : TM) : TM := fun δ Q E => ma δ (fun d => ∃ ds, (d = .tup ds ∨ d = .list ds) ∧ m (.obj n []) ds (fun d r => r = .none ∧ Q d) (fun _ er => E er)) E
theorem df_makeS {f0 : Addr} {sp : Pos} (hC : PySem.W.nsIn X.K mainGlobals n = some (some (.ref C))) (M : Mk X.K C f0) (F : FnM X.prog X.w X.K X.mg X.base k f0 mm) (hG : GdOk X.A X.base) (hr : Room (k + 1) X.A) (tk : Takes X W) (hg : Gl X n) (gC : X.mg n = some (.ref C)) (he : DE X W e ba ma) (hdb : (n == ("__debug__" : Str)) = false := by decide)
    (hst : starEach [.Starred e sp] X.env = [(true, eval e X.env)] := by rfl) : DF X W (.Call (.Name n p) [.Starred e sp] [] pos) (mMakeS n mm ma) := by
  refine ⟨fun pins s σ H Q I ⟨FF, own, δ, P, EK, A, m, q⟩ => ?_⟩
  refine wpAny_Call_Name_kw (ld_glob I hg gC ?_ hdb)
  refine PySem.W.callWith_S (h₀ := X.base) I.ok.mod.kin M.kp (thn (he.run pins s σ H (fun y H1 => ∃ a xs ds, y = V.ref a ∧ (SqT X.K H1 a xs ∨ SqL X.K H1 a xs) ∧ mm (.obj n []) ds (fun d r => r = .none ∧ P d) (fun _ er => EK er) ∧ Same H H1 ∧ Reps X.K (sub H1 (FF.ls0 ++ own)) xs ds) I
    ⟨FF, own, δ, _, EK, A, m, fun d v H1 ⟨ds, ed, m1⟩ s1 r1 => ?_⟩) fun u s1 ⟨y, H1, I1, ry, a, xs, ds, ey, hxs, m1, s01, rr⟩ => ?_) hst
  · rcases ed with rfl | rfl
    · obtain ⟨a, xs, rfl, h1, h2, h3⟩ := r1.tup
      exact ⟨a, xs, ds, rfl, .inl h1, m1, s1, h3⟩
    · obtain ⟨a, xs, rfl, h1, h2, h3⟩ := r1.list
      exact ⟨a, xs, ds, rfl, .inr (.of h1), m1, s1, h3⟩
  · subst ey
    obtain rfl : u = Value.ref a := ry
    exact StX.star_any I1 hxs fun us s2 I2 rv => ⟨I2.kIn, run_new M F hG hr tk (E := fun cls dd H' => W cls dd σ H') (fun _ _ _ h => h) I2 rv (make_sp hC A s01 rr m1 q)⟩
end
/-! ### isinstance of own classes -/
def ownTys : List String := ["NoneType", "bool", "int", "str", "list", "tuple", "dict"]
/-- what the written part says of an own class and the built-in ones -/
def kitAll (K : PySem.W.Frag) (C : Addr) : Bool := ownTys.all fun t => decide (PySem.W.kitOne K (.type t) (.ref C) = some false)
def isClsD (n : Str) : D → Bool
  | .obj m _ => decide (m = n)
  | _ => false
def fIsiC (others : List Str) (n : Str) (d : D) (Q : D → Prop) : Prop := (d.tyn.isSome = true ∨ ∃ m fs, d = .obj m fs ∧ m ∈ others) ∧ Q (.bool (isClsD n d))
def mIsiC (others : List Str) (n : Str) (ma : TM) : TM := fun δ Q E => ma δ (fun d => fIsiC others n d Q) E
/-- .. of a class whose instances' kind is asked -/
structure InsTy (K : PySem.W.Frag) (C : Addr) : Prop where
  cl : Cls K C
  fc : PySem.W.findIn K (.ref C) "__class__" = some (some (.builtin "object.__class__"))
  sg : PySem.W.specialIn K (.builtin "object.__class__") "__get__" = some (some (.builtin "getset_descriptor.__get__"))
  tk : PySem.W.takesIn K (.builtin "object.__class__") = some true
  mo : PySem.W.mroIn K C (.type "object") = some true
/-- own classes among one another -/
structure KitOwn (K : PySem.W.Frag) (others : List Str) : Prop where
  two : ∀ (m n : Str) (Cm Cn : Addr), m ∈ others → n ∈ others → PySem.W.nsIn K mainGlobals m = some (some (.ref Cm)) → PySem.W.nsIn K mainGlobals n = some (some (.ref Cn)) → PySem.W.kitOne K (.ref Cm) (.ref Cn) = some (decide (m = n))
  ins : ∀ (m : Str) (Cm : Addr), m ∈ others → PySem.W.nsIn K mainGlobals m = some (some (.ref Cm)) → InsTy K Cm
theorem tyn_mem {d : D} {t : String} (h : d.tyn = some t) : t ∈ ownTys := by
  cases d <;> cases h <;> decide
section
variable {X : Cx} {W : WX} {a : Expr} {ba : Bool} {ma : TM} {n : Str} {C : Addr} {pos p p2 : Pos} {others : List Str}
theorem de_isiC (hC : PySem.W.nsIn X.K mainGlobals n = some (some (.ref C))) (gC : X.mg n = some (.ref C)) (hcn : Gl X n) (hdb : (n == ("__debug__" : Str)) = false) (hk : kitAll X.K C = true) (ho : KitOwn X.K others) (hin : n ∈ others) (hg : Gl X "isinstance") (hm : X.mg "isinstance" = none) (ha : DE X W a ba ma)
    (hs : starEach [a, .Name n p2] X.env = (false, eval a X.env) :: starEach [.Name n p2] X.env := by rfl) (hs2 : starEach [.Name n p2] X.env = (false, eval (.Name n p2) X.env) :: starEach [] X.env := by rfl) (hpl : (backTo pos (starEach [.Name n p2] X.env)).any (·.1) = false := by rfl) :
    DE X W (.Call (.Name "isinstance" p) [a, .Name n p2] [] pos) false (mIsiC others n ma) :=
  PE.imp (pe_callB call_isi hg hm (by decide +kernel) (pa_cons ha (pa_cons (pe_glob (v := .ref C) hcn gC rfl (hd := hdb)) pa_nil hs2) hs) (by decide) (by decide) hs hpl) fun σ H Q ⟨F, own, δ, P, EK, A, m, q⟩ => ⟨F, own, δ, _, EK, A, m, fun d v H1 ⟨hd, m1⟩ s1 r1 => by
    have fin : ∀ t, TyX X.K H1 v t → PySem.W.kitOne X.K t (.ref C) = some (isClsD n d) → ∃ (x c : V) (t u : Value) (b : Bool), [v, V.ref C] = [x, c] ∧ ClsV c u ∧ TyX X.K H1 x t ∧ PySem.W.kitOne X.K t u = some b ∧ Q (.bl b) H1 := fun t ty hk => ⟨v, .ref C, t, .ref C, _, rfl, .own C, ty, hk, q _ _ H1 m1 s1 (.cl (.bool _))⟩
    rcases hd with hd | ⟨m', fs, rfl, hm'⟩
    · obtain ⟨t, ht⟩ := Option.isSome_iff_exists.mp hd
      refine fin (.type t) (tyx_rv r1 ht) ?_
      have z := of_decide_eq_true (List.all_eq_true.mp hk t (tyn_mem ht))
      rw [z]
      cases d <;> cases ht <;> rfl
    · obtain ⟨C', a, dx, vs, hC', rfl, h1, h2⟩ := r1.obj
      have T := ho.ins m' C' hm' hC'
      refine fin (.ref C') (.base (.ins h1 T.cl T.fc T.sg T.tk T.mo)) ?_
      rw [ho.two m' n C' C hm' hin hC' hC]
      rfl⟩
end
end DL

set_option Elab.async false
set_option linter.all false
set_option maxRecDepth 100000
set_option maxHeartbeats 4000000
/-! DL22: list(d.values()). -/
namespace DL
open PySem PySem.Spec PyProof.Rows L2
variable [TabsC]
theorem kv_vals : ∀ {kvs : List (Key × V)} {vs : List (Key × Value)}, KV kvs vs → Vals (kvs.map (·.2)) (vs.map (·.2))
  | _, _, .nil => .nil
  | _, _, .cons h t => .cons h.2 (kv_vals t)
def tListVals (te : TE) : TE := fun σ H Q => te σ H fun x H1 => ∃ (d : Addr) (kvs : List (Key × V)), x = .ref d ∧ Rd H1 d (.dK kvs) ∧ ∀ p, H1 p = none → Q (.ref p) (upd H1 p (.lst (kvs.map (·.2))))
section
variable {X : Cx} {W : WX} {e : Expr} {te : TE} {ba : Bool} {ma : TM} {p apos cpos pos : Pos}
theorem pe_listVals (hc : X.calm = true) (he : PE X e te) (hg : Gl X "list") (hm : X.mg "list" = none) (hv : bootBuiltins "list" = some (.type "list")) (hbase : attributeBase e "values" X.env (eval e X.env) = eval e X.env := by rfl) (hline : (apos.endLine == cpos.line) = true := by rfl)
    (hs : starEach [.Call (.Attribute e "values" apos) [] [] cpos] X.env = (false, eval (.Call (.Attribute e "values" apos) [] [] cpos) X.env) :: starEach [] X.env := by rfl) :
    PE X (.Call (.Name "list" p) [.Call (.Attribute e "values" apos) [] [] cpos] [] pos) (tListVals te) := by
  refine ⟨fun pins s σ H Q I hq => ?_⟩
  refine wpAny_Call_Name_kw (ld_blt I hg hm hv ?_)
  refine PyProof.Rows.callWith_type1 ?_ hs rfl
  rw [hs]
  show wpAny _ _ (spliced ((false, eval (.Call (.Attribute e "values" apos) [] [] cpos) X.env) :: backTo pos (starEach [] X.env))) _ _ s
  refine Calls.spliced_cons ?_
  refine wpAny_Call_method (T := "dict") (id := "dict.values") hbase rfl hline F.plainAttrs_dict F.slot_dict_values F.type_dict_values (thn (he.run pins s σ H _ I hq) fun u s1 ⟨x, H1, I1, rx, d, kvs, ex, hd, q⟩ => ?_)
  subst ex
  obtain rfl : u = Value.ref d := rx
  obtain ⟨hz, hs0, vs, kv, hdo⟩ := dk_rd I1.hok hd
  obtain ⟨ep, hat⟩ := hdo.dictAt
  have lk : kvs.length = vs.length := Paired.length kv
  have I2 : Inv X pins σ H1 { s1 with heap := s1.heap.push { cls := .type "dict_values", data := .fields #[.ref d] } } := I1.kept (t' := s1.toks) fun b ob q => Heap.get?_push_of_some _ q
  refine ⟨hdo.typeIs, hdo.mapOf.noDict, ?_⟩
  show wpAny _ _ (callWith cpos (.builtin "dict.values") [.ref d] [] []) _ X.xe s1
  refine method_meetsIn F.slot_dict_values F.entry_dict_values rfl (PySem.evalArgs_none ⟨rfl, hdo.typeIs, F.args_dict_values_1 _, _, meets_dict_values (mixKind X.prog X.w) d hs0, ⟨vs, hdo⟩, ?_⟩)
  refine Calls.spliced_nil ?_
  refine PySem.W.kdl_call (PySem.W.kdl_values (knd := mixKind X.prog X.w) (kvs := vs) (ep := ep)) (I1.ok.hd hc) ⟨⟨_, Heap.get?_push_size _ rfl, rfl, rfl⟩, hat.push _⟩ (by rw [← lk]; exact hz) fun h' tk acc c hk hS hacc => ?_
  have ev : acc.toList = vs.map (·.2) := PySem.W.kdl_vals_eq _ (by rw [Array.length_toList]; exact hacc.1) fun j v e => hacc.2 j v (by rw [← Array.getElem?_toList]; exact e)
  refine ⟨.ref _, upd H1 _ (.lst (kvs.map (·.2))), I2.laid (t' := tk) hk (Nat.le_refl _) (show ObjOk X.prog X.w _ _ _ (.lst (kvs.map (·.2))) from ⟨by rw [List.length_map]; exact hz, acc.toList, c, by rw [ev]; exact kv_vals kv, by rw [Array.toArray_toList]; exact hS⟩), rfl, q _ (I2.hok.fresh (Nat.le_refl _))⟩
theorem RepKs.vals {K : PySem.W.Frag} {H : Hp} : ∀ {vs : List (Key × V)} {ds : List (Key × D)}, RepKs K H vs ds → Reps K H (vs.map (·.2)) (ds.map (·.2))
  | _, _, .nil => .nil
  | _, _, .cons h r => .cons h r.vals
def mListVals (ma : TM) : TM := fun δ Q E => ma δ (fun d => ∃ ds : List (Key × D), d = .dict ds ∧ Q (.list (ds.map (·.2)))) E
theorem df_listVals (hc : X.calm = true) (he : DE X W e ba ma) (hg : Gl X "list") (hm : X.mg "list" = none) (hv : bootBuiltins "list" = some (.type "list")) (hbase : attributeBase e "values" X.env (eval e X.env) = eval e X.env := by rfl) (hline : (apos.endLine == cpos.line) = true := by rfl)
    (hs : starEach [.Call (.Attribute e "values" apos) [] [] cpos] X.env = (false, eval (.Call (.Attribute e "values" apos) [] [] cpos) X.env) :: starEach [] X.env := by rfl) :
    DF X W (.Call (.Name "list" p) [.Call (.Attribute e "values" apos) [] [] cpos] [] pos) (mListVals ma) :=
  PE.imp (pe_listVals hc he hg hm hv hbase hline hs) fun σ H Q ⟨F, own, δ, P, EK, A, m, q⟩ => ⟨F, own, δ, _, EK, A, m, fun d v H1 ⟨ds, ed, m1⟩ s1 r1 => by
    subst ed
    obtain ⟨a, kvs, rfl, h1, h2, h3⟩ := r1.dict
    refine ⟨a, kvs, rfl, h1, fun p hp => q _ p _ m1 (s1.free hp) (s1.trans (same_upd hp)) (.l upd_same (by rw [List.length_map]; exact h2) (h3.vals.mono ?_))⟩
    exact sub_fresh hp (same_upd hp)⟩
end
end DL

set_option Elab.async false
set_option linter.all false
set_option maxRecDepth 100000
set_option maxHeartbeats 4000000
/-! DL23: chains within a list of sizes, counted and the longest (plain). -/
namespace DL
variable [TabsC]
def chainB (s : List Int) : Bool := decide (s ≠ []) && (gapL s).isNone
theorem gap_snoc (s : List Int) (x : Int) : (gapL (s ++ [x])).isNone = (decide (s = []) || ((gapL s).isNone && decide (x % s.getLastD 0 = 0))) := by
  by_cases h : s = []
  · subst h; rfl
  · rw [decide_eq_false h, Bool.false_or]
    unfold gapL
    rw [nb_append h, List.find?_append]
    cases hf : (nb s).find? fun p => decide (p.2 % p.1 ≠ 0) with
    | some p => simp
    | none =>
      rw [Option.none_or]
      by_cases z : x % s.getLastD 0 = 0
      · rw [List.find?_cons_of_neg (by intro c; exact of_decide_eq_true c z)]; rw [decide_eq_true z]; rfl
      · rw [List.find?_cons_of_pos (by simpa only [ne_eq, decide_not, Bool.not_eq_true', decide_eq_false_iff_not] using z), decide_eq_false z]; rfl
theorem chain_snoc (s : List Int) (x : Int) : chainB (s ++ [x]) = (decide (s = []) || (chainB s && decide (x % s.getLastD 0 = 0))) := by
  unfold chainB
  rw [gap_snoc]
  by_cases h : s = []
  · simp [h]
  · simp [h]
/-- the sub-lists, as the law makes them -/
def subsL (xs : List Int) : List (List Int) := xs.foldl (fun f x => f ++ f.map (· ++ [x])) [[]]
theorem subs_snoc (xs : List Int) (x : Int) : subsL (xs ++ [x]) = subsL xs ++ (subsL xs).map (· ++ [x]) := by
  unfold subsL; rw [List.foldl_append] <;> rfl
theorem snoc_ind {P : List Int → Prop} (h0 : P []) (h1 : ∀ xs x, P xs → P (xs ++ [x])) (xs : List Int) : P xs := by
  have : ∀ r : List Int, P r.reverse := fun r => by
    induction r with
    | nil => exact h0
    | cons a r ih => rw [List.reverse_cons]; exact h1 _ _ ih
  have t := this xs.reverse
  rwa [List.reverse_reverse] at t
theorem mem_subs : ∀ (xs s : List Int), s ∈ subsL xs ↔ s.Sublist xs := by
  refine snoc_ind (fun s => ?_) fun xs x ih s => ?_
  · show s ∈ [[]] ↔ _
    rw [List.mem_singleton, List.sublist_nil]
  · rw [subs_snoc, List.mem_append, List.mem_map, ih]
    constructor
    · rintro (h | ⟨t, ht, rfl⟩)
      · exact h.trans (List.sublist_append_left _ _)
      · exact ((ih t).mp ht).append (List.Sublist.refl _)
    · intro h
      obtain ⟨a, b, rfl, h1, h2⟩ := List.sublist_append_iff.mp h
      rcases List.sublist_cons_iff.mp h2 with h3 | ⟨r, rfl, h3⟩
      · rw [List.sublist_nil.mp h3, List.append_nil]; exact .inl h1
      · rw [List.sublist_nil.mp h3]; exact .inr ⟨a, (ih a).mpr h1, rfl⟩
/-- how many sub-lists hold P, back to front -/
def cR : (List Int → Bool) → List Int → Nat
  | P, [] => if P [] = true then 1 else 0
  | P, x :: r => cR P r + cR (fun s => P (s ++ [x])) r
theorem cR_eq : ∀ (r : List Int) (P : List Int → Bool), (subsL r.reverse).countP P = cR P r
  | [], P => by
    show [([] : List Int)].countP P = _
    rw [List.countP_singleton]; rfl
  | x :: r, P => by
    rw [List.reverse_cons, subs_snoc, List.countP_append, List.countP_map, cR_eq r P, cR_eq r (P ∘ (· ++ [x]))]
    rfl
theorem cR_mono : ∀ {r r' : List Int}, r.Sublist r' → ∀ P, cR P r ≤ cR P r'
  | _, _, .slnil, P => Nat.le_refl _
  | _, _, .cons x h, P => Nat.le_trans (cR_mono h P) (Nat.le_add_right _ _)
  | _, _, .cons₂ x h, P => Nat.add_le_add (cR_mono h P) (cR_mono h _)
theorem count_mono {xs ys : List Int} (h : xs.Sublist ys) (P : List Int → Bool) : (subsL xs).countP P ≤ (subsL ys).countP P := by
  have a := cR_eq xs.reverse P
  have b := cR_eq ys.reverse P
  rw [List.reverse_reverse] at a b
  rw [a, b]
  exact cR_mono h.reverse P
theorem subs_map (f : Int → Int) : ∀ xs : List Int, subsL (xs.map f) = (subsL xs).map (List.map f) := by
  refine snoc_ind rfl fun xs x ih => ?_
  rw [List.map_append, show [x].map f = [f x] from rfl, subs_snoc, subs_snoc, ih, List.map_append, List.map_map, List.map_map]
  congr 1
  refine List.map_congr_left fun s _ => ?_
  simp [Function.comp]
theorem nb_map (f : Int → Int) : ∀ xs : List Int, nb (xs.map f) = (nb xs).map fun p => (f p.1, f p.2)
  | [] => rfl
  | [x] => rfl
  | x :: y :: r => by
    have ih := nb_map f (y :: r)
    show (f x, f y) :: nb ((y :: r).map f) = (f x, f y) :: (nb (y :: r)).map _
    rw [ih]
theorem mod_scale {t : Int} (ht : 1 ≤ t) (x y : Int) : y * t % (x * t) = 0 ↔ y % x = 0 := by
  constructor
  · intro h
    obtain ⟨k, hk⟩ := Int.dvd_of_emod_eq_zero h
    refine Int.emod_eq_zero_of_dvd ⟨k, ?_⟩
    have e : (y - x * k) * t = 0 := by rw [Int.sub_mul, hk, Int.mul_right_comm, Int.sub_self]
    rcases Int.mul_eq_zero.mp e with h | h <;> omega
  · intro h
    obtain ⟨k, hk⟩ := Int.dvd_of_emod_eq_zero h
    exact Int.emod_eq_zero_of_dvd ⟨k, by rw [hk, Int.mul_right_comm]⟩
theorem chain_scale {t : Int} (ht : 1 ≤ t) (s : List Int) : chainB (s.map (· * t)) = chainB s := by
  unfold chainB gapL
  rw [nb_map, List.find?_map, Option.isNone_map]
  congr 1
  · simp
  · congr 2
    funext p
    simp only [Function.comp, ne_eq, mod_scale ht]
theorem count_scale {t : Int} (ht : 1 ≤ t) (xs : List Int) : (subsL (xs.map (· * t))).countP chainB = (subsL xs).countP chainB := by
  rw [subs_map, List.countP_map]
  congr 1
  funext s
  exact chain_scale ht s
/-! ### the table -/
def tabF (g : Int → Bool) (tab : List (Int × Int)) : Int := ((tab.filter fun p => g p.1).map (·.2)).sum
def tabL (xs : List Int) : List (Int × Int) := xs.foldl (fun tab x => tab ++ [(x, 1 + tabF (fun k => decide (x % k = 0)) tab)]) []
theorem tab_snoc (xs : List Int) (x : Int) : tabL (xs ++ [x]) = tabL xs ++ [(x, 1 + tabF (fun k => decide (x % k = 0)) (tabL xs))] := by
  unfold tabL; rw [List.foldl_append] <;> rfl
theorem tab_keys : ∀ xs : List Int, (tabL xs).map (·.1) = xs := by
  refine snoc_ind rfl fun xs x ih => ?_
  rw [tab_snoc, List.map_append, ih] <;> rfl
theorem sumI_append (a b : List Int) : (a ++ b).sum = a.sum + b.sum := by
  induction a with
  | nil => simp
  | cons x a ih => simp only [List.cons_append, List.sum_cons, ih]; omega
theorem tabF_snoc (g : Int → Bool) (tab : List (Int × Int)) (x v : Int) : tabF g (tab ++ [(x, v)]) = tabF g tab + if g x = true then v else 0 := by
  unfold tabF
  rw [List.filter_append, List.map_append, sumI_append]
  cases h : g x <;> simp [h]
theorem count_nil : ∀ xs : List Int, (subsL xs).countP (fun s => decide (s = [])) = 1 := by
  refine snoc_ind rfl fun xs x ih => ?_
  rw [subs_snoc, List.countP_append, ih, List.countP_map, List.countP_eq_zero.mpr]
  intro s _
  simp
theorem tab_count : ∀ (xs : List Int) (g : Int → Bool), tabF g (tabL xs) = ((subsL xs).countP fun s => chainB s && g (s.getLastD 0) : Nat) := by
  refine snoc_ind (fun g => rfl) fun xs x ih g => ?_
  rw [tab_snoc, tabF_snoc, subs_snoc, List.countP_append, List.countP_map, ih g, ih]
  have one : ((subsL xs).countP ((fun s => chainB s && g (s.getLastD 0)) ∘ (· ++ [x]))) = if g x = true then 1 + (subsL xs).countP (fun s => chainB s && decide (x % s.getLastD 0 = 0)) else 0 := by
    have e : ((fun s => chainB s && g (s.getLastD 0)) ∘ (· ++ [x])) = fun s => (decide (s = []) || (chainB s && decide (x % s.getLastD 0 = 0))) && g x := by
      funext s
      simp only [Function.comp, chain_snoc, List.getLastD_concat]
    rw [e]
    cases hg : g x with
    | false => simp
    | true =>
      rw [if_pos rfl, ← count_nil xs]
      simp only [Bool.and_true]
      generalize subsL xs = L
      induction L with
      | nil => rfl
      | cons s L ihL =>
        rw [List.countP_cons, List.countP_cons, List.countP_cons, ihL]
        by_cases hs : s = []
        · subst hs
          simp [chainB]
          omega
        · simp only [hs, decide_false, Bool.false_or]
          simp
          omega
  rw [one]
  cases hg : g x <;> simp
def manyL (xs : List Int) : Int := ((tabL xs).map (·.2)).sum
theorem many_count (xs : List Int) : manyL xs = ((subsL xs).filter chainB).length := by
  have := tab_count xs fun _ => true
  rw [← List.countP_eq_length_filter]
  unfold tabF at this
  rw [List.filter_eq_self.mpr (fun _ _ => rfl)] at this
  simp only [Bool.and_true] at this
  exact this
/-! ### the longest -/
structure LongOk (p : List Int) (L : List (List Int)) : Prop where
  mem : ∀ t, t ∈ L → chainB t = true ∧ t.Sublist p
  top : ∀ s, s.Sublist p → chainB s = true → ∃ t, t ∈ L ∧ t.getLastD 0 = s.getLastD 0 ∧ s.length ≤ t.length
theorem LongOk.nil : LongOk [] [] := ⟨(fun t h => by cases h), fun s h hc => absurd (show chainB [] = true from List.sublist_nil.mp h ▸ hc) (by decide)⟩
def belowL (x : Int) (L : List (List Int)) : List (List Int) := L.filter fun t => decide (x % t.getLastD 0 = 0)
theorem LongOk.step {p : List Int} {L : List (List Int)} {x : Int} {b : List Int} (h : LongOk p L) (h0 : belowL x L = [] → b = []) (h1 : belowL x L ≠ [] → b ∈ belowL x L ∧ ∀ t, t ∈ belowL x L → t.length ≤ b.length) : LongOk (p ++ [x]) (L ++ [b ++ [x]]) := by
  constructor
  · intro t ht
    rcases List.mem_append.mp ht with ht | ht
    · obtain ⟨a, c⟩ := h.mem t ht
      exact ⟨a, c.trans (List.sublist_append_left _ _)⟩
    · rw [List.mem_singleton.mp ht, chain_snoc]
      by_cases e : belowL x L = []
      · rw [h0 e]
        exact ⟨rfl, List.sublist_append_right _ _⟩
      · obtain ⟨m, _⟩ := List.mem_filter.mp (h1 e).1
        obtain ⟨a, c⟩ := h.mem b m
        have d := (List.mem_filter.mp (h1 e).1).2
        refine ⟨by rw [a, d]; simp, c.append (List.Sublist.refl _)⟩
  · intro s hs hc
    obtain ⟨a, c, rfl, g1, g2⟩ := List.sublist_append_iff.mp hs
    rcases List.sublist_cons_iff.mp g2 with g3 | ⟨r, rfl, g3⟩
    · rw [List.sublist_nil.mp g3, List.append_nil] at hc ⊢
      obtain ⟨t, t1, t2, t3⟩ := h.top a g1 hc
      exact ⟨t, List.mem_append_left _ t1, t2, t3⟩
    · rw [List.sublist_nil.mp g3] at hc ⊢
      refine ⟨b ++ [x], List.mem_append_right _ (List.mem_singleton.mpr rfl), by rw [List.getLastD_concat, List.getLastD_concat], ?_⟩
      rw [List.length_append, List.length_append]
      refine Nat.add_le_add_right ?_ _
      rw [chain_snoc] at hc
      by_cases e : a = []
      · rw [e]; exact Nat.zero_le _
      · rw [decide_eq_false e, Bool.false_or, Bool.and_eq_true] at hc
        obtain ⟨t, t1, t2, t3⟩ := h.top a g1 hc.1
        have tb : t ∈ belowL x L := List.mem_filter.mpr ⟨t1, by rw [t2]; exact hc.2⟩
        exact Nat.le_trans t3 ((h1 (fun z => by rw [z] at tb; cases tb)).2 t tb)
end DL

set_option Elab.async false
set_option linter.all false
set_option maxRecDepth 100000
set_option maxHeartbeats 4000000
/-! DL24: errors of one's own: made, raised, caught by several clauses, their field read. -/
namespace DL
open PySem PySem.Spec PyProof.Rows L2
/-! ### an own class over a built-in one -/
/-- own classes, then the tail -/
def refsT (tl : List Value) : List Value → Bool
  | .ref _ :: r => refsT tl r
  | l => l == tl
theorem refsT_split {tl : List Value} : ∀ l : List Value, refsT tl l = true → ∃ cs : List Addr, l = cs.map Value.ref ++ tl := by
  intro l
  induction l with
  | nil => intro e; exact ⟨[], (beq_iff_eq.mp e)⟩
  | cons a r ih =>
    intro e
    cases a with
    | ref c =>
      obtain ⟨cs, z⟩ := ih e
      exact ⟨c :: cs, by rw [z]; rfl⟩
    | _ => exact ⟨[], beq_iff_eq.mp e⟩
theorem refsT_has {tl : List Value} {l : List Value} (e : refsT tl l = true) (n : String) : l.contains (.type n) = tl.contains (.type n) := by
  obtain ⟨cs, rfl⟩ := refsT_split l e
  induction cs with
  | nil => rfl
  | cons c cs ih => rw [List.map_cons, List.cons_append, List.contains_cons, ih (by simpa [refsT] using e)]; rfl
theorem refsT_pass {tl : List Value} {self : Value} (ht : PySem.refuseLoop self "__setattr__" tl = pure ()) : ∀ cs : List Addr, PySem.refuseLoop self "__setattr__" (cs.map Value.ref ++ tl) = pure ()
  | [] => ht
  | c :: cs => by
    rw [List.map_cons, List.cons_append, refuseLoop_ref]
    exact refsT_pass ht cs
end DL
namespace PySem
namespace HandSPX
open PySem.W PySem.Calls PyProof.Rows PySem.Builtin PySem.Builtin.ObjectAttr
section
variable {prog : Program} {w : World} {A : Around} {R : Result → Shared → Prop} {hp : Heap} {g : Array GenState} {d : Drawn} {t : Nat} {os : OsState}
/-- a first attribute of a new exception of any own class: its dict is made -/
theorem exc_first {K : W.Frag} {fld : Str} {tk : Tok} {val : Value} {tl : List Value} {x C : Addr} {fv : Array Value} {cd : ClassData} (KI : K.In hp) (atx : hp.get? x = some { cls := .ref C, data := .fields fv }) (hcd : W.clsIn K C = some cd) (hm : DL.refsT tl cd.mro = true) (hpass : ∀ self, refuseLoop self "__setattr__" tl = pure ()) (hobj : tl.contains (.type "object") = true)
    (hdict : cd.hasDict = true) (hno : W.findIn K (.ref C) fld = some none)
    (fin : ∀ h' tk' dx, (∀ b o, b ≠ x → hp.get? b = some o → h'.get? b = some o) → hp.objs.size ≤ dx → dx ≠ x → h'.get? x = some { cls := .ref C, dict := some dx, data := .fields fv } → h'.Ns1 dx (fun y => if y = fld then some val else none) → R (.ok (.ret .none)) ⟨h', g, d, tk', os⟩) :
    codeAny (model prog w) A (.call (.builtin "object.__setattr__") ⟨[.ref x, .str fld tk, val], []⟩) R ⟨hp, g, d, t, os⟩ := by
  have inst : W.InstAt hp x { cls := .ref C, data := .fields fv } C none := ⟨atx, rfl, rfl, trivial⟩
  have hob : cd.mro.contains (.type "object") = true := (DL.refsT_has hm "object").trans hobj
  have ne : cd.mro.isEmpty = false := by
    cases e : cd.mro with
    | nil => rw [e] at hob; cases hob
    | cons _ _ => rfl
  have pass : ∀ self, refuseLoop self "__setattr__" cd.mro = pure () := fun self => by
    obtain ⟨cs, e⟩ := DL.refsT_split _ hm
    rw [e]
    exact DL.refsT_pass (hpass self) cs
  have apart : x ≠ hp.objs.size := Nat.ne_of_lt (Heap.lt_size atx)
  have isObj : W.Looks (model prog w) hp (isInstance (.ref x) (.type "object")) true := inst.type.andThen (W.looks_mroIn KI (by unfold W.mroIn; rw [hcd, Option.bind_some, if_neg (by rw [ne]; decide), hob]))
  have FO := F.store_object
  refine codeAny_call_builtin FO.slot.plain FO.entry (@W.check_slot (model prog w) _ _ ⟨hp, g, d, t, os⟩ "object.__setattr__" "object" "__setattr__" (.ref x) [.str fld tk, val] [] _ FO.kind FO.split isObj (FO.args (.ref x) (.str fld tk) val) ?_)
  have lm : W.Looks (model prog w) hp (mroOf (.ref C)) cd.mro := (W.looks_clsIn KI hcd).andThen .now
  have ls : W.Looks (model prog w) hp (storeTaker? none) none := .now
  have lc : W.Looks (model prog w) hp (classData C) cd := W.looks_clsIn KI hcd
  rw [W.osa_eq, refuse_eq]
  refine wpAny_bind (wpAny_bind (inst.type.at (wpAny_bind (lm.at ?_))))
  rw [pass _]
  refine wpAny_pure (wpAny_bind (inst.type.at (wpAny_bind ((W.looks_findIn KI hno).at (wpAny_bind (ls.at ?_))))))
  show wpAny _ _ (storeInOwnDict (.ref x) (.ref C) (.str fld tk) fld val false) _ _ _
  obtain ⟨n1, n2, n3, n4, n5, hd, n6, n7, n8, n9, n10⟩ := cd
  dsimp only at hdict
  subst hdict
  unfold storeInOwnDict ownDictForStores
  repeat (first | with_reducible refine store_in_new ?_ ?_ | with_reducible refine wpAny_loadPart_at atx ?_ | with_reducible refine lc.at ?_ | wp_step)
  · exact ⟨_, #[], _, (Heap.get?_update_ne _ _ _ _ apart.symm).trans (Heap.get?_push_at rfl rfl), rfl, fun e he => absurd he (by simp), fun _ => rfl⟩
  · intro h2 tk2 ns2 sb
    have atx1 : (hp.push { cls := .type "dict", data := .dict #[] }).get? x = some { cls := .ref C, data := .fields fv } := Heap.get?_push_of_some _ atx
    refine fin h2 tk2 hp.objs.size (fun b o hb ho => ?_) (Nat.le_refl _) apart.symm ?_ ns2
    · exact (sb.2 b (Nat.ne_of_lt (Heap.lt_size ho))).trans ((Heap.get?_update_ne _ _ _ _ hb).trans (Heap.get?_push_of_some _ ho))
    · exact (sb.2 x apart).trans (Heap.get?_update_self _ atx1 rfl)
end
end HandSPX
end PySem
namespace DL
open PySem PySem.Spec PyProof.Rows L2
/-! ### def __init__(self, f): self.f = f -/
def xA (f : Str) (p1 p2 : Pos) : Arguments := { posonlyargs := [], args := [{ arg := "self", annotation := none, pos := p1 }, { arg := f, annotation := none, pos := p2 }], vararg := none, kwonlyargs := [], kw_defaults := [], kwarg := none, defaults := [] }
def xB (f : Str) (q1 q2 q3 q4 : Pos) : List Stmt := [.Assign [.Attribute (.Name "self" q1) f q2] (.Name f q3) q4]
def xS (f : Str) : Scope := { kind := .function, names := [(PySem.Str.ofString "self", .local), (f, .local)], isGenerator := false, isCoroutine := false, more := [] }
/-- what the written part says of an own exception class at C that keeps one field -/
structure OwnX (K : PySem.W.Frag) (C fI : Addr) (nm qn f : Str) (tl : List Value) (newId : String) : Prop where
  cls : ∃ n q N bs bm sn sub ab col dd k0 k1 k2 k3 k5, K.lookup C = some (excClassObj n q C N bs bm true sn sub ab col dd k0 k1 k2 k3 k5 newId) ∧ refsT tl bm = true
  sa : PySem.W.findIn K (.ref C) "__setattr__" = some (some (.builtin "object.__setattr__"))
  ga : PySem.W.findIn K (.ref C) "__getattribute__" = some (some (.builtin "BaseException.__getattribute__"))
  gg : PySem.W.findIn K (.ref C) "__getattr__" = some none
  no : PySem.W.findIn K (.ref C) f = some none
  iC : PySem.W.findIn K (.ref C) "__init__" = some (some (.ref fI))
  tC : PySem.W.typeIn K (.ref fI) = some (.type "function")
  kC : PySem.W.keepIn K (.ref C) = true
  ex : PySem.W.subIn K (.ref C) (.type "BaseException") = some true
  ty : PySem.W.typeIn K (.ref C) = some (.type "type")
  hd : PySem.W.hasDictIn K C = true
  fn : ∃ (oc : Value) (od : Option Addr) (doc pm : Value) (an : Option Addr) (cdv ct : Value) (osl : Array (Option Value)) (p1 p2 q1 q2 q3 q4 : Pos),
    K.lookup fI = some ⟨oc, od, .func (PySem.W.fnOf "__init__" qn (xA f p1 p2) (xB f q1 q2 q3 q4) (xS f) .none .none doc pm an cdv ct), osl⟩ ∧ PySem.W.codeIn K cdv qn = true
structure MadeX (h h' : Heap) (e C d : Addr) (f : Str) (v : Value) : Prop where
  keep : ∀ b o, h.get? b = some o → h'.get? b = some o
  new : h.objs.size ≤ e
  obj : ∃ oe vs, h'.get? e = some oe ∧ oe.cls = .ref C ∧ oe.dict = some d ∧ oe.data = .fields vs ∧ vs[1]? = some .none
  dbig : h.objs.size ≤ d
  dne : d ≠ e
  ns : h'.Ns1 d (fun y => if y = f then some v else none)
/-- facts of the field's name -/
structure FldOk (f : Str) : Prop where
  bind : ∀ (qn : Str) (doc pm cdv ct x v : Value) (an : Option Addr) (p1 p2 q1 q2 q3 q4 : Pos), bindArgs (PySem.W.fnOf "__init__" qn (xA f p1 p2) (xB f q1 q2 q3 q4) (xS f) .none .none doc pm an cdv ct) ⟨[x, v], []⟩ = pure [(("self" : Str), x), (f, v)]
  all : ((xS f).names.lookup ("self" : Str) == some NameKind.local || (xS f).names.lookup ("self" : Str) == some NameKind.cell) = true ∧ ((xS f).names.lookup f == some NameKind.local || (xS f).names.lookup f == some NameKind.cell) = true
  kd : ∀ (name : Str) (L a : Addr) (cd : Value), (envOfC name (xS f) L a cd).kindOf f = some .local
  ks : ∀ (name : Str) (L a : Addr) (cd : Value), (envOfC name (xS f) L a cd).kindOf "self" = some .local
  dbg : (f == ("__debug__" : Str)) = false
  mf : ∀ (name : Str) (L a : Addr) (cd x v : Value), bindL (envOfC name (xS f) L a cd).kindOf [(("self" : Str), x), (f, v)] (fun _ => none) f = some v
  ms : ∀ (name : Str) (L a : Addr) (cd x v : Value), bindL (envOfC name (xS f) L a cd).kindOf [(("self" : Str), x), (f, v)] (fun _ => none) "self" = some x
/-- facts of the built-in base -/
structure BaseX (B newId initId : String) (tl : List Value) : Prop where
  F : ExcBaseFacts B newId initId tl
  pass : ∀ self, PySem.refuseLoop self "__setattr__" tl = pure ()
  obj : tl.contains (.type "object") = true
section
variable {prog : Program} {w : World} {A : Around} {E : Value → Shared → Prop} {R : Result → Shared → Prop} {s : Shared} {K : PySem.W.Frag} {C fI : Addr} {nm qn f : Str} {tl : List Value} {B newId initId : String}
theorem ld_at {M : Model} {s : Shared} {name : Str} {scope : Scope} {L a : Addr} {cd : Value} {m : Str → Option Value} {x : Str} {pos : Pos} {v : Value} {Q : Value → Shared → Prop} {A : Around} {E : Value → Shared → Prop} (hn : s.heap.Ns L m) (hv : m x = some v) (hk : scope.kind = .function) (hl : (envOfC name scope L a cd).kindOf x = some .local) (hd : (x == ("__debug__" : Str)) = false) (h : Q v s) :
    wpAny M A (eval (.Name x pos) (envOfC name scope L a cd)) Q E s := wpAny_Name (wpAny_loadName_local hk hl hn hv h) hd
theorem init_x (BX : BaseX B newId initId tl) (T : OwnX K C fI nm qn f tl newId) (FO : FldOk f) {x t0 : Addr} {v : Value} (KI : K.In s.heap) (hlim : s.heap.NoLimit) (hx : s.heap.get? x = some (PySem.HandSPX.excO C t0)) (hroom : A.depth < recursionLimit)
    (hq : ∀ h' tk dx, (∀ b o, b ≠ x → s.heap.get? b = some o → h'.get? b = some o) → h'.get? x = some { cls := .ref C, dict := some dx, data := .fields #[.ref t0, .none, .none, .none, .bool false, .none] } → s.heap.objs.size ≤ dx → dx ≠ x → h'.Ns1 dx (fun y => if y = f then some v else none) → R (.ok (.ret .none)) { s with heap := h', toks := tk }) :
    codeAny (model prog w) A (.call (.ref fI) ⟨[.ref x, v], []⟩) R s := by
  obtain ⟨oc, od, doc, pm, an, cdv, ct, osl, p1, p2, q1, q2, q3, q4, ho, hcd⟩ := T.fn
  obtain ⟨n, q, N, bs, bm, sn, sub, ab, col, dd, k0, k1, k2, k3, k5, hC, hbm⟩ := T.cls
  have hcl : PySem.W.clsIn K C = some { name := n, bases := bs, mro := .ref C :: bm, ns := N, qualname := q, hasDict := true, slotNames := sn, subclasses := sub, abstract := ab, collection := col, hasDel := false } := by unfold PySem.W.clsIn; rw [hC] <;> rfl
  refine Att.call_fn (binds := [("self", .ref x), (f, v)]) KI hlim ho hcd hroom (BindsTo.of_eq (FO.bind _ _ _ _ _ _ _ _ _ _ _ _ _ _)) (by simp only [List.all_cons, List.all_nil]; rw [FO.all.1, FO.all.2]; rfl) (fun s1 IC => ?_) rfl rfl rfl
  obtain ⟨h1, tk1, rfl⟩ := IC.toInCall.same
  have kp : ∀ b o, s.heap.get? b = some o → h1.get? b = some o := IC.toInCall.keep
  have hn := IC.toInCall.ns
  have KI1 : K.In h1 := KI.keeps kp
  have hx1 := kp _ _ hx
  show wpAny _ _ (execs _ _) _ _ _
  refine wpAny_execs_cons (plainObj_wpAny_Assign_Attribute ?_)
  refine ld_at (v := v) hn ?_ rfl (FO.kd _ _ _ _) FO.dbg (ld_at (v := .ref x) hn ?_ rfl (FO.ks _ _ _ _) (by decide) ?_)
  · exact FO.mf _ _ _ _ _ _
  · exact FO.ms _ _ _ _ _ _
  refine PySem.W.set_plain KI1 (ox := PySem.HandSPX.excO C t0) (od := none) ⟨hx1, rfl, rfl, trivial⟩ T.sa ?_
  refine PySem.HandSPX.exc_first (tl := tl) KI1 hx1 hcl (show refsT tl (.ref C :: bm) = true from hbm) BX.pass BX.obj rfl T.no (fun h3 tk3 dx k3 dn dne hx3 hn3 => ?_)
  show wpAny _ _ (execs _ _) _ _ _
  have z : s.heap.objs.size < h1.objs.size := hn.lt
  exact wpAny_execs_nil (hq h3 tk3 dx (fun b o hb e => k3 b o hb (kp b o e)) hx3 (Nat.le_of_lt (Nat.lt_of_lt_of_le z dn)) dne hn3)
theorem made_x (BX : BaseX B newId initId tl) (T : OwnX K C fI nm qn f tl newId) (FO : FldOk f) {v : Value} (KI : K.In s.heap) (hlim : s.heap.NoLimit) (hroom : A.depth + 1 < recursionLimit)
    (hq : ∀ h' tk e d, MadeX s.heap h' e C d f v → R (.ok (.ret (.ref e))) { s with heap := h', toks := tk }) : codeAny (model prog w) A (.call (.ref C) ⟨[v], []⟩) R s := by
  obtain ⟨n, q, N, bs, bm, sn, sub, ab, col, dd, k0, k1, k2, k3, k5, hC, hbm⟩ := T.cls
  obtain ⟨hp, g, dr, tk, os⟩ := s
  have kp : ∀ b o, hp.get? b = some o → ((hp.push (PySem.W.kdv_tup [v])).push (PySem.HandSPX.excO C hp.objs.size)).get? b = some o := fun b o e => Heap.get?_push_of_some _ (Heap.get?_push_of_some _ e)
  have at_ : ((hp.push (PySem.W.kdv_tup [v])).push (PySem.HandSPX.excO C hp.objs.size)).get? (hp.objs.size + 1) = some (PySem.HandSPX.excO C hp.objs.size) := by
    have := Heap.get?_push_size (hp.push (PySem.W.kdv_tup [v])) (o := PySem.HandSPX.excO C hp.objs.size) rfl
    rwa [Heap.size_push] at this
  refine PySem.HandSPX.call_own BX.F (fun Y => refsT_has hbm Y) (KI _ _ hC) (PySem.W.looks_findIn KI T.iC) (fun self => PySem.W.bind_fn KI self T.tC) (by show 1 ≤ sizeLine; rw [sizeLine_eq]; decide) ?_
  refine init_x (s := ⟨(hp.push (PySem.W.kdv_tup [v])).push (PySem.HandSPX.excO C hp.objs.size), g, dr, tk, os⟩) BX T FO (KI.keeps kp) (hlim.keeps kp) at_ ?_ fun h2 tk2 dx k2 hx dn dne hns => ?_
  · show A.depth + 1 < recursionLimit
    exact hroom
  · have dn2 : hp.objs.size + 1 + 1 ≤ dx := by
      have z : ((hp.push (PySem.W.kdv_tup [v])).push (PySem.HandSPX.excO C hp.objs.size)).objs.size ≤ dx := dn
      rwa [Heap.size_push, Heap.size_push] at z
    exact ⟨rfl, hq h2 tk2 (hp.objs.size + 1) dx ⟨fun b o e => k2 b o (Nat.ne_of_lt (Nat.lt_succ_of_lt (Heap.lt_size e))) (kp b o e), Nat.le_succ _, ⟨_, _, hx, rfl, rfl, rfl, rfl⟩, (show hp.objs.size ≤ dx from by omega), dne, hns⟩⟩
end
/-! ### X(e), raised -/
section
variable {X : Cx} {C fI : Addr} {nm qn f : Str} {tl : List Value} {B newId initId : String} {W : WX} {a : Expr} {ta : TA} {x : Str} {p pos pos2 : Pos} {k : Nat}
def tMkX (C : Addr) (f : Str) (ta : TA) : L2.St → Hp → XK → Prop := fun σ H Q => ta σ H fun vs H1 => ∃ v, vs = [v] ∧ ∀ d, H1 d = none → Q (.ref C) (some d) (upd H1 d (.xd [(f, v)]))
theorem pmk_x (BX : BaseX B newId initId tl) (T : OwnX X.K C fI nm qn f tl newId) (FO : FldOk f) (gC : X.mg x = some (.ref C)) (hr : Room (k + 1) X.A) (ha : PA X [a] ta) (hg : Gl X x) (hdb : (x == ("__debug__" : Str)) = false := by decide)
    (he : starEach (a :: []) X.env = (false, eval a X.env) :: starEach [] X.env := by rfl) (hpl : (backTo pos (starEach [] X.env)).any (·.1) = false := by rfl) : PMk X (.Call (.Name x p) [a] [] pos) (tMkX C f ta) := by
  intro pins s σ H Q I h
  refine wpAny_Call_Name_kw (ld_glob I hg gC ?_ hdb)
  refine PySem.W.callWith_K (h₀ := X.base) I.ok.mod.kin T.kC (thn (ha.run pos pins s σ H _ I h) fun us s1 hh => ?_) he hpl
  obtain ⟨vs, H1, I1, r1, v, ev, q1⟩ := hh
  subst ev
  refine ⟨I1.kIn, ?_⟩
  obtain ⟨u, rfl, rv⟩ := vals1 r1
  show wpAny _ _ (call (.ref C) [u]) _ _ _
  have lim := I1.nolimit
  obtain ⟨hp, g, dr, tk, os⟩ := s1
  refine wpAny_call (made_x BX T FO I1.kIn lim (by have := hr.dp; omega) fun h2 tk2 e d M => ?_)
  show MkP X pins σ Q (.ref e) ⟨h2, g, dr, tk2, os⟩
  obtain ⟨oe, fv, hoe, hc, hd, hdat, h1⟩ := M.obj
  obtain ⟨G, g1, g2⟩ := restrict h2 fun b => decide (b ≠ e)
  have gk : ∀ b, b ≠ e → G.get? b = h2.get? b := fun b hb => g1 b (decide_eq_true hb)
  have ge : G.get? e = none := g2 e (by simp)
  have old : ∀ b o, hp.get? b = some o → G.get? b = some o := fun b o q => (gk b (Nat.ne_of_lt (Nat.lt_of_lt_of_le (Heap.lt_size q) M.new))).trans (M.keep b o q)
  have rel : ∀ y : Str, RelO (List.lookup y [(f, v)]) (if y = f then some u else none) := fun y => by
    rw [List.lookup_cons]
    by_cases z : y = f
    · rw [if_pos z, show (y == f) = true by simpa using z]; exact rv
    · rw [if_neg z, show (y == f) = false by simpa using z]; trivial
  have J : Inv X pins σ (upd H1 d (.xd [(f, v)])) ⟨G, g, dr, tk2, os⟩ := I1.laid (t' := tk2) old M.dbig (show ObjOk X.prog X.w _ G d (.xd [(f, v)]) from ⟨_, M.ns.at (fun o q => (gk d M.dne).trans q), rel⟩)
  refine ⟨e, oe, fv, ⟨G, g, dr, tk2, os⟩, _, .ref C, some d, rfl, J, fun b o q => ?_, ge, hoe, ⟨hc, hd⟩, hdat, h1, ?_, rfl, I1.bare, raises_own T.ex T.ty, q1 d (I1.hok.fresh M.dbig)⟩
  · by_cases hb : b = e
    · have z : G.get? b = some o := q
      rw [hb, ge] at z; cases z
    · exact (gk b hb).symm.trans q
  · rw [upd_ne (Ne.symm M.dne)]
    exact I1.hok.fresh M.new
end
variable [TabsC]
section
variable {X : Cx} {C fI : Addr} {nm qn f : Str} {tl : List Value} {B newId initId : String} {W : WX} {a e : Expr} {ba : Bool} {ma : TM} {x : Str} {p p2 pos pos2 : Pos} {k : Nat}
/-- raise X(e) -/
def sRaise (nm f : Str) (ma : TM) : SM := fun δ k => ma δ (fun d => k.er δ ⟨nm, some (f, d)⟩) (k.er δ)
theorem ds_raise (BX : BaseX B newId initId tl) (T : OwnX X.K C fI nm qn f tl newId) (FO : FldOk f) (hn : PySem.W.nsIn X.K mainGlobals nm = some (some (.ref C))) (gC : X.mg nm = some (.ref C)) (hc : X.calm = true) (hr : Room (k + 1) X.A) (tk : Takes X W) (ha : DE X W a false ma) (hg : Gl X nm) (hdb : (nm == ("__debug__" : Str)) = false := by decide)
    (he : starEach (a :: []) X.env = (false, eval a X.env) :: starEach [] X.env := by rfl) (hpl : (backTo pos (starEach [] X.env)).any (·.1) = false := by rfl) : DS X W (.Raise (some (.Call (.Name nm p) [a] [] pos)) none pos2) (sRaise nm f ma) :=
  PS.imp (ps_raise hc tk (pmk_x BX T FO gC hr (pa_cons ha pa_nil he) hg hdb he hpl)) fun D σ H ⟨F, own, δ, κ, E, h, L⟩ => ⟨F, own, δ, _, _, L.at E, h, fun d v H1 m1 s1 r1 => ⟨v, rfl, fun dx hdx => by
    have out : dx ∉ F.ls0 ++ own := nofr (E.grow s1).trk hdx
    have g := sub_same (ls := F.ls0 ++ own) (same_upd (o := .xd [(f, v)]) hdx).ob
    exact L.er _ _ _ σ _ own δ (E.grow (s1.trans (same_upd hdx))) m1 ⟨⟨C, hn, rfl⟩, fun f' d' q => by
      cases q
      exact ⟨dx, v, rfl, by rw [sub_out out]; exact upd_same, r1.clean.mono g⟩⟩⟩⟩
/-- raise X('m') -/
def sRaise0 (nm : Str) : SM := fun δ k => k.er δ ⟨nm, none⟩
theorem ds_raise0 {m : Str} {j : Nat} {bmB : List Value} (F : ExcBaseFacts B newId initId bmB) (q : PySem.W.excIn X.K C bmB newId = true) (hn : PySem.W.nsIn X.K mainGlobals nm = some (some (.ref C))) (gC : X.mg nm = some (.ref C)) (kC : PySem.W.keepIn X.K (.ref C) = true) (h1 : PySem.W.subIn X.K (.ref C) (.type "BaseException") = some true) (h2 : PySem.W.typeIn X.K (.ref C) = some (.type "type")) (hc : X.calm = true) (tk : Takes X W) (hg : Gl X nm) (hdb : (nm == ("__debug__" : Str)) = false := by decide) :
    DS X W (.Raise (some (.Call (.Name nm p) [.Constant (.str m) j p2] [] pos)) none pos2) (sRaise0 nm) :=
  PS.imp (ps_raise hc tk (pmk_own F q gC kC (raises_own h1 h2) hg hdb)) fun D σ H ⟨Fm, own, δ, κ, E, h, L⟩ => L.er _ _ _ σ H own δ E h ⟨⟨C, hn, rfl⟩, fun f d q => by cases q⟩
end
end DL

set_option Elab.async false
set_option linter.all false
set_option maxRecDepth 100000
set_option maxHeartbeats 4000000
/-! DL25: try with several clauses; what a caught error keeps. -/
namespace DL
open PySem PySem.Spec PyProof.Rows L2
theorem bx_ValueError : BaseX "ValueError" "ValueError.__new__" "ValueError.__init__" [.type "ValueError", .type "Exception", .type "BaseException", .type "object"] := ⟨PySem.F.excBase_ValueError, fun s => by kernel_rfl, by decide +kernel⟩
theorem bx_IndexError : BaseX "IndexError" "IndexError.__new__" "IndexError.__init__" [.type "IndexError", .type "LookupError", .type "Exception", .type "BaseException", .type "object"] := ⟨PySem.F.excBase_IndexError, fun s => by kernel_rfl, by decide +kernel⟩
theorem bx_OverflowError : BaseX "OverflowError" "OverflowError.__new__" "OverflowError.__init__" [.type "OverflowError", .type "ArithmeticError", .type "Exception", .type "BaseException", .type "object"] := ⟨PySem.F.excBase_OverflowError, fun s => by kernel_rfl, by decide +kernel⟩
theorem bx_ArithmeticError : BaseX "ArithmeticError" "ArithmeticError.__new__" "ArithmeticError.__init__" [.type "ArithmeticError", .type "Exception", .type "BaseException", .type "object"] := ⟨PySem.F.excBase_ArithmeticError, fun s => by kernel_rfl, by decide +kernel⟩
theorem bx_LookupError : BaseX "LookupError" "LookupError.__new__" "LookupError.__init__" [.type "LookupError", .type "Exception", .type "BaseException", .type "object"] := ⟨PySem.F.excBase_LookupError, fun s => by kernel_rfl, by decide +kernel⟩
theorem bx_RuntimeError : BaseX "RuntimeError" "RuntimeError.__new__" "RuntimeError.__init__" [.type "RuntimeError", .type "Exception", .type "BaseException", .type "object"] := ⟨PySem.F.excBase_RuntimeError, fun s => by kernel_rfl, by decide +kernel⟩
/-- an exception lies at a, caught; the clauses are asked -/
structure Cat (X : Cx) (Wout : WX) (pins : List (Addr × Obj)) (σ : L2.St) (H : Hp) (cls : Value) (d : Option Addr) (a : Addr) (B : Heap) (s : Shared) (h : Heap) : Prop where
  fl : PySem.HandSPX.FlyingZ B (X.env :: X.outer) a (Zc cls d) h
  land : ∀ h', PySem.HandSPX.FlyingZ B (X.env :: X.outer) a (Zc cls d) h' → h.UpToSlots h' → Inv X pins σ H { s with heap := h' }
  na : H a = none
  nL : a ≠ X.env.locals
  nF : a ∉ X.fs
  out : ∀ h', PySem.HandSPX.HeldZ B (X.env :: X.outer) a (Zc cls d) X.env.locals h' → h.UpToSlots h' → Wout cls d σ H → X.xe (.ref a) { s with heap := h' }
def PH (X : Cx) (hds : List ExceptHandler) (w : WX → Ends → WX) : Prop := ∀ (Wout : WX) (D : Ends) (pins : List (Addr × Obj)) (σ : L2.St) (H : Hp) (cls : Value) (d : Option Addr) (a : Addr) (B : Heap) (s : Shared) (h : Heap),
  Cat X Wout pins σ H cls d a B s h → w Wout D cls d σ H → wpAny (model X.prog X.w) X.A (handleBy (.ref a) X.env hds) (SP X pins D) X.xe { s with heap := h }
section
variable {X : Cx} {hds : List ExceptHandler} {w : WX → Ends → WX} {x n : Str} {c : Value} {C : Addr} {b0 : Stmt} {suite : List Stmt} {np pos' : Pos} {i : Nat}
theorem ph_nil (hf : X.env.frame = some X.env.locals) : PH X [] fun Wout _ => Wout := by
  intro Wout D pins σ H cls d a B s h q wish
  refine wpAny_handleBy_nil ?_
  obtain ⟨k1, k2, k3, oe, vs, T, oT, ts, he, hz, hd, h1, hr⟩ := id q.fl
  unfold PySem.passOn
  refine wpAny_bind (wpAny_field he hd h1 ?_)
  rw [if_neg (show ¬ ((Value.ref T == Value.none) = true) from by simp)]
  have last : wpAny (model X.prog X.w) X.A (setFlight (.ref a) X.env.frame) (fun _ s4 => wpAny (model X.prog X.w) X.A (throw (.ref a) : Sem Flow) (SP X pins D) X.xe s4) X.xe { s with heap := h } := by
    rw [hf]
    exact PySem.HandSPX.setFlight_upZ q.fl fun h4 hh4 up4 => wpAny_throw (q.out h4 hh4 up4 wish)
  first
    | exact wpAny_bind (wpAny_pure (wpAny_bind last))
    | exact wpAny_bind last
/-- does the clause's class take it -/
theorem ph_test {Q : Value → Shared → Prop} {Wout : WX} {pins : List (Addr × Obj)} {σ : L2.St} {H : Hp} {cls : Value} {d : Option Addr} {a : Addr} {B : Heap} {s : Shared} {h : Heap} {E : Value → Shared → Prop} (q : Cat X Wout pins σ H cls d a B s h) (hc : Names X x c) (hq : Q c { s with heap := h }) :
    wpAny (model X.prog X.w) (X.A.mark (some (.ref a))) (eval (.Name x np) X.env) Q E { s with heap := h } := by
  obtain ⟨oe, vs, he, hz, hd⟩ := q.fl.there
  have S := (q.land h q.fl (fun b o e _ => ⟨o.slots, e⟩)).suite he hd q.na q.nL q.nF
  obtain ⟨hg, hdbg, hm | ⟨hm, hv, hnn⟩⟩ := hc
  · exact ld_glob (X := X.suite a ((a, oe) :: (X.pn ++ pins))) S hg hm hq hdbg
  · exact ld_blt (X := X.suite a ((a, oe) :: (X.pn ++ pins))) S hg hm hv hq hnn hdbg
theorem ph_is {Wout : WX} {pins : List (Addr × Obj)} {σ : L2.St} {H : Hp} {cls : Value} {d : Option Addr} {a : Addr} {B : Heap} {s : Shared} {h : Heap} (q : Cat X Wout pins σ H cls d a B s h) : X.K.In h ∧ PySem.W.Looks (model X.prog X.w) h (typeOf (.ref a)) cls := by
  obtain ⟨oe, vs, he, hz, hd⟩ := q.fl.there
  exact ⟨(q.land h q.fl (fun b o e _ => ⟨o.slots, e⟩)).kIn, fun A Q E s k q => wpAny_typeOf_ref (k _ _ he) (by rw [hz.1]; exact q)⟩
/-- except x: suite -/
theorem ph_cons {ts : TS} (hc : Names X x c) (hsu : ∀ (a : Addr) (oe : Obj) (cls : Value) (d : Option Addr) (pn : List (Addr × Obj)), Zc cls d oe → PSs (X.suite a ((a, oe) :: pn)) (b0 :: suite) ts) (r : PH X hds w) :
    PH X (.ExceptHandler (some (.Name x np)) none (b0 :: suite) pos' :: hds) fun Wout D cls d σ H => ∃ b, PySem.W.exmOne X.K cls c = some b ∧ (b = true → ts D σ H) ∧ (b = false → w Wout D cls d σ H) := by
  intro Wout D pins σ H cls d a B s h q ⟨b, hb, hyes, hno⟩
  refine wpAny_handleBy_cons (codeAny_handlers_test ?_) (by intro z; cases z)
  obtain ⟨kin, lt⟩ := ph_is q
  refine ph_test q hc ((PySem.W.exm_one (M := model X.prog X.w) kin lt hb).here ?_)
  cases b with
  | false => exact r Wout D pins σ H cls d a B s h q (hno rfl)
  | true =>
    refine codeAny_handlers_suite ?_
    refine PySem.HandSPX.lands_againZ q.fl fun h4 fl4 up4 => ?_
    have J4 := q.land h4 fl4 up4
    obtain ⟨oe, vs, he, hz, hd⟩ := fl4.there
    refine wpAny_mono ((hsu a oe cls d (X.pn ++ pins) hz).run [] _ _ H _ (J4.suite he hd q.na q.nL q.nF) (hyes rfl)) (fun f s6 hsp => ?_) (fun _ _ z => False.elim z)
    cases f with
    | next => exact let ⟨σ6, H6, S6, q6⟩ := hsp; ⟨_, _, S6.unsuite J4.ok, q6⟩
    | brk => exact let ⟨σ6, H6, S6, q6⟩ := hsp; ⟨_, _, S6.unsuite J4.ok, q6⟩
    | cont => exact let ⟨σ6, H6, S6, q6⟩ := hsp; ⟨_, _, S6.unsuite J4.ok, q6⟩
    | ret u => exact let ⟨v6, σ6, H6, S6, r6, q6⟩ := hsp; ⟨_, _, _, S6.unsuite J4.ok, r6, q6⟩
/-- except x as n: suite, of errors of just that class -/
theorem ph_as {ts : Addr → Option Addr → TS} (hN : X.N.Nodup) (hi : X.N[i]? = some n) (hln : X.env.kindOf n = some .local) (hc : Names X x (.ref C)) (hsu : ∀ (a : Addr) (oe : Obj) (d : Option Addr) (pn : List (Addr × Obj)), Zc (.ref C) d oe → (∃ vs, oe.data = .fields vs) → PSs (X.suite a ((a, oe) :: pn)) (b0 :: suite) (ts a d)) (r : PH X hds w) :
    PH X (.ExceptHandler (some (.Name x np)) (some n) (b0 :: suite) pos' :: hds) fun Wout D cls d σ H => ∃ b, PySem.W.exmOne X.K cls (.ref C) = some b ∧ (b = true → cls = .ref C ∧ ∀ a, H a = none → ts a d { nx := fun σ' H' => D.nx (σ'.set i none) H', rt := D.rt, bk := fun σ' H' => D.bk (σ'.set i none) H', ct := fun σ' H' => D.ct (σ'.set i none) H' } (σ.set i (some (.ref a))) H) ∧ (b = false → w Wout D cls d σ H) := by
  intro Wout D pins σ H cls d a B s h q ⟨b, hb, hyes, hno⟩
  refine wpAny_handleBy_cons (codeAny_handlers_test ?_) (by intro z; cases z)
  obtain ⟨kin, lt⟩ := ph_is q
  refine ph_test q hc ((PySem.W.exm_one (M := model X.prog X.w) kin lt hb).here ?_)
  cases b with
  | false => exact r Wout D pins σ H cls d a B s h q (hno rfl)
  | true =>
    obtain ⟨ec, hy2⟩ := hyes rfl
    subst ec
    refine codeAny_handlers_suite_as ?_
    refine PySem.HandSPX.lands_againZ q.fl fun h4 fl4 up4 => ?_
    have J4 := q.land h4 fl4 up4
    obtain ⟨oe, vs, he, hz, hd⟩ := fl4.there
    refine store_ok (X := X.suite a ((a, oe) :: (X.pn ++ pins))) (v := .ref a) (J4.suite he hd q.na q.nL q.nF) hN hi (.inl hln) rfl (fun s5 S5 => ?_) (.inr hln)
    refine wpAny_mono ((hsu a oe d (X.pn ++ pins) hz ⟨_, hd⟩).run [] s5 _ H _ S5 (hy2 a q.na)) (fun f s6 hsp => ?_) (fun _ _ z => False.elim z)
    have fin : ∀ {σ6 : L2.St} {H6 : Hp} {Q : Shared → Prop}, Inv (X.suite a ((a, oe) :: (X.pn ++ pins))) [] σ6 H6 s6 → (∀ s7, Inv X pins (σ6.set i none) H6 s7 → Q s7) →
        wpAny (model X.prog X.w) X.A (do bindName X.env n .none; unbindBehindTheSuite X.env n pos') (fun _ s7 => Q s7) X.xe s6 := fun {σ6 H6 Q} S6 hq => gone_ok (S6.unsuite J4.ok) hN hi hln hq
    cases f with
    | next => exact let ⟨σ6, H6, S6, q6⟩ := hsp; fin S6 fun s7 J7 => ⟨_, _, J7, q6⟩
    | brk => exact let ⟨σ6, H6, S6, q6⟩ := hsp; fin S6 fun s7 J7 => ⟨_, _, J7, q6⟩
    | cont => exact let ⟨σ6, H6, S6, q6⟩ := hsp; fin S6 fun s7 J7 => ⟨_, _, J7, q6⟩
    | ret u => exact let ⟨v6, σ6, H6, S6, r6, q6⟩ := hsp; fin S6 fun s7 J7 => ⟨_, _, _, J7, r6, q6⟩
theorem ps_try {body : List Stmt} {pos : Pos} {tb : WX → TS} {Wout : WX} (hs : X.stack = X.env :: X.outer) (hf : X.env.frame = some X.env.locals) (tk : Takes X Wout)
    (hb : ∀ (W : WX) (pn : List (Addr × Obj)) (xe : Value → Shared → Prop), Takes (X.tr pn xe) W → PassesOwn (model X.prog X.w) X.A X.env xe → PSs (X.tr pn xe) body (tb W)) (hh : PH X hds w) (h0 : hds ≠ []) :
    PS X (.Try body hds [] [] pos) (fun D σ H => tb (w Wout D) D σ H) := by
  refine ⟨fun pins s σ H D I h => ?_⟩
  have ok := I.ok
  have hfr : X.A.frames = some (X.env :: X.outer) := by rw [ok.frames, hs]
  obtain ⟨hd0, hds', rfl⟩ := List.exists_cons_of_ne_nil h0
  refine wpAny_Try_except ?_
  refine wpAny_mono ((hb (w Wout D) (X.pn ++ pins) (fun e s1 => wpAny (model X.prog X.w) X.A (noteFrame e X.env) (fun _ s2 => wpAny (model X.prog X.w) X.A (setFlight e none) (fun _ s3 =>
    wpAny (model X.prog X.w) X.A (handleBy e X.env (hd0 :: hds')) (SP X pins D) X.xe s3) X.xe s2) X.xe s1) (fun u s' xx => ?_) PassesOwn.looking).run [] s σ H D (I.toTry _) h) (fun f s1 hsp => ?_) (fun e s1 he => he)
  · obtain ⟨a, B, sI, pins', σ', H', cls, d, rfl, J0, nb, up, sky, na, os, ag, wish⟩ := xx
    have J : Inv X pins σ' H' sI := J0.ofTry ok
    have sky' : Sky B (X.env :: X.outer) a (Zc cls d) X.env.locals s'.heap := by rw [← hs]; exact sky
    show wpAny (model X.prog X.w) X.A (noteFrame (.ref a) X.env) _ _ _
    refine Sky.land Zc.steady hfr hf sky' fun h3 fl3 up3 => ?_
    obtain ⟨oe, vs, he, hz, hd⟩ := fl3.there
    have nfr : a ∉ frs (X.env :: X.outer) := fun hm => by
      obtain ⟨_, o, e, hnf⟩ := fl3.2.2.1.mem hm
      rw [he] at e; cases e
      exact hnf _ hd
    refine hh Wout D pins σ' H' cls d a B s' h3 ⟨fl3, fun h4 fl4 up4 => J.landed nb fl4.1 ((up.trans up3).trans up4) os ag, na, fun z => nfr (List.mem_filterMap.mpr ⟨X.env, List.mem_cons_self, by rw [hf, z]⟩), fun hm => ?_, fun h4 hh4 up4 ww => tk _ _ ?_⟩ wish
    · obtain ⟨e, he, q⟩ := List.mem_filterMap.mp hm
      exact nfr (List.mem_filterMap.mpr ⟨e, List.mem_cons_of_mem _ he, q⟩)
    · exact ⟨a, B, sI, pins, σ', H', cls, d, rfl, J, nb, (up.trans up3).trans up4, .inr (.inr (by rw [hs]; exact hh4)), na, os, ag, ww⟩
  · cases f with
    | next => exact let ⟨σ', H', J, q⟩ := hsp; wpAny_execs_nil ⟨σ', H', J.ofTry ok, q⟩
    | brk => exact let ⟨σ', H', J, q⟩ := hsp; ⟨σ', H', J.ofTry ok, q⟩
    | cont => exact let ⟨σ', H', J, q⟩ := hsp; ⟨σ', H', J.ofTry ok, q⟩
    | ret u => exact let ⟨v, σ', H', J, r, q⟩ := hsp; ⟨v, σ', H', J.ofTry ok, r, q⟩
end
/-! ### over data -/
variable [TabsC]
/-- which class takes which error -/
structure HIsa (K : PySem.W.Frag) (names : List Str) (isa : Str → Str → Bool) : Prop where
  one : ∀ (n c : Str) (Cn Cc : Addr), n ∈ names → c ∈ names → PySem.W.nsIn K mainGlobals n = some (some (.ref Cn)) → PySem.W.nsIn K mainGlobals c = some (some (.ref Cc)) → PySem.W.exmOne K (.ref Cn) (.ref Cc) = some (isa n c)
def HM := Er → SM
def hPlain (m : SM) : HM := fun _ δ k => m δ { k with er := fun _ _ => False }
def hAs (i : Nat) (m : Addr → Addr → SM) : HM := fun er δ k => ∃ f d, er.arg = some (f, d) ∧ ∀ a dd, m a dd (δ.set i (.v (.exc a dd er.cls f d))) ⟨fun δ' => k.nx (δ'.set i .u), k.rt, fun δ' => k.bk (δ'.set i .u), fun δ' => k.ct (δ'.set i .u), fun _ _ => False⟩
def hsM (isa : Str → Str → Bool) : List (Str × HM) → Er → SM
  | [], er => fun δ k => k.er δ er
  | (c, h) :: r, er => fun δ k => if isa er.cls c = true then h er δ k else hsM isa r er δ k
def sTry (names : List Str) (isa : Str → Str → Bool) (mb : SM) (hs : List (Str × HM)) : SM := fun δ k => mb δ { k with er := fun δ' er => er.cls ∈ names ∧ hsM isa hs er δ' k }
def DHs (X : Cx) (names : List Str) (isa : Str → Str → Bool) (hds : List ExceptHandler) (hs : List (Str × HM)) : Prop := ∃ w : WX → Ends → WX, PH X hds w ∧ ∀ (Wout : WX) (D : Ends) (F : Fm) (k : KD), LinkS X.K Wout F k D → ∀ er cls dd σ H own δ, EnvD X.K F own σ δ H → er.cls ∈ names → RepEr X.K (F.ls0 ++ own) H cls dd er → hsM isa hs er δ k → w Wout D cls dd σ H
section
variable {X : Cx} {W : WX} {names : List Str} {isa : Str → Str → Bool} {hds : List ExceptHandler} {hs : List (Str × HM)} {x n : Str} {C : Addr} {b0 : Stmt} {suite sts : List Stmt} {np pos' pos : Pos} {i : Nat} {mb m : SM}
theorem dhs_nil (hf : X.env.frame = some X.env.locals) : DHs X names isa [] [] := ⟨_, ph_nil hf, fun Wout D F k L er cls dd σ H own δ E hn r h => L.er er cls dd σ H own δ E h r⟩
theorem link_in {K : PySem.W.Frag} {Wout : WX} {F : Fm} {k : KD} {D : Ends} (L : LinkS K Wout F k D) : LinkS K NoW F { k with er := fun _ _ => False } D := ⟨L.nx, L.rt, L.bk, L.ct, fun _ _ _ _ _ _ _ _ z => z.elim⟩
theorem dhs_cons (HI : HIsa X.K names isa) (hn : PySem.W.nsIn X.K mainGlobals x = some (some (.ref C))) (gC : X.mg x = some (.ref C)) (hx : x ∈ names) (hg : Gl X x) (hsu : ∀ (a : Addr) (oe : Obj) (pn : List (Addr × Obj)), DSs (X.suite a ((a, oe) :: pn)) NoW (b0 :: suite) m) (r : DHs X names isa hds hs) (hdb : (x == ("__debug__" : Str)) = false := by decide) :
    DHs X names isa (.ExceptHandler (some (.Name x np)) none (b0 :: suite) pos' :: hds) ((x, hPlain m) :: hs) := by
  obtain ⟨w, hw, hr⟩ := r
  refine ⟨_, ph_cons (c := .ref C) (ts := ts X.K NoW m) ⟨hg, hdb, .inl gC⟩ (fun a oe cls d pn _ => hsu a oe pn) hw, fun Wout D F k L er cls dd σ H own δ E hin rep h => ?_⟩
  obtain ⟨⟨Ce, hCe, rfl⟩, _⟩ := id rep
  refine ⟨isa er.cls x, HI.one _ _ _ _ hin hx hCe hn, fun e => ?_, fun e => ?_⟩
  · unfold hsM at h
    rw [if_pos e] at h
    exact ⟨F, own, δ, _, E, h, link_in L⟩
  · unfold hsM at h
    rw [if_neg (by rw [e]; decide)] at h
    exact hr Wout D F k L er _ dd σ H own δ E hin rep h
theorem dhs_as (i : Nat) {m : Addr → Addr → SM} (HI : HIsa X.K names isa) (hN : X.N.Nodup) (hi : X.N[i]? = some n) (hln : X.env.kindOf n = some .local) (hn : PySem.W.nsIn X.K mainGlobals x = some (some (.ref C))) (gC : X.mg x = some (.ref C)) (hx : x ∈ names) (leaf : ∀ y, y ∈ names → isa y x = true → y = x) (hg : Gl X x)
    (hsu : ∀ (a dd : Addr) (oe : Obj) (pn : List (Addr × Obj)), Zc (.ref C) (some dd) oe → (∃ vs, oe.data = .fields vs) → DSs (X.suite a ((a, oe) :: pn)) NoW (b0 :: suite) (m a dd)) (r : DHs X names isa hds hs) (hdb : (x == ("__debug__" : Str)) = false := by decide) :
    DHs X names isa (.ExceptHandler (some (.Name x np)) (some n) (b0 :: suite) pos' :: hds) ((x, hAs i m) :: hs) := by
  obtain ⟨w, hw, hr⟩ := r
  refine ⟨_, ph_as (C := C) (ts := fun a d D σ H => ∃ dd, d = some dd ∧ ts X.K NoW (m a dd) D σ H) hN hi hln ⟨hg, hdb, .inl gC⟩ (fun a oe d pn hz hf => ?_) hw, fun Wout D F k L er cls dd σ H own δ E hin rep h => ?_⟩
  · refine ⟨fun pins s σ H D I ⟨dd, ed, h⟩ => ?_⟩
    subst ed
    exact (hsu a dd oe pn hz hf).run pins s σ H D I h
  · obtain ⟨⟨Ce, hCe, rfl⟩, ra⟩ := id rep
    refine ⟨isa er.cls x, HI.one _ _ _ _ hin hx hCe hn, fun e => ?_, fun e => ?_⟩
    · unfold hsM at h
      rw [if_pos e] at h
      obtain ⟨f, d, ea, h⟩ := h
      have ex := leaf _ hin e
      rw [ex, hn] at hCe
      cases hCe
      obtain ⟨dx, v, ed, hdx, rv⟩ := ra f d ea
      refine ⟨rfl, fun a na => ⟨dx, ed, F, own, _, _, E.set i (v := .ref a) (d := .exc a dx er.cls f d) (.exc (by rw [ex]; exact hn) hdx rv), h a dx, ?_⟩⟩
      exact ⟨fun σ' H' own' δ' E' q => L.nx _ H' own' _ (E'.unset i none) q, L.rt, fun σ' H' own' δ' E' q => L.bk _ H' own' _ (E'.unset i none) q, fun σ' H' own' δ' E' q => L.ct _ H' own' _ (E'.unset i none) q, fun _ _ _ _ _ _ _ _ z => z.elim⟩
    · unfold hsM at h
      rw [if_neg (by rw [e]; decide)] at h
      exact hr Wout D F k L er _ dd σ H own δ E hin rep h
theorem ds_try (hs0 : X.stack = X.env :: X.outer) (hf : X.env.frame = some X.env.locals) (tk : Takes X W)
    (hb : ∀ (W' : WX) (pn : List (Addr × Obj)) (xe : Value → Shared → Prop), Takes (X.tr pn xe) W' → PassesOwn (model X.prog X.w) X.A X.env xe → DSs (X.tr pn xe) W' sts mb) (hh : DHs X names isa hds hs) (h0 : hds ≠ []) : DS X W (.Try sts hds [] [] pos) (sTry names isa mb hs) := by
  obtain ⟨w, hw, hr⟩ := hh
  refine PS.imp (ps_try (tb := fun W' => ts X.K W' mb) hs0 hf tk hb hw h0) fun D σ H ⟨F, own, δ, k, E, h, L⟩ => ?_
  exact ⟨F, own, δ, _, E, h, ⟨L.nx, L.rt, L.bk, L.ct, fun er cls dd σ' H' own' δ' E' ⟨hin, q⟩ r => hr W D F k L er cls dd σ' H' own' δ' E' hin r q⟩⟩
/-- e.f, e the error that the clause has caught -/
def mEF (i : Nat) (a dd : Addr) (f : Str) : TM := fun δ Q _ => ∃ nm d, δ[i]? = some (.v (.exc a dd nm f d)) ∧ Q d
theorem de_xf (i : Nat) {a dd : Addr} {oe : Obj} {pn : List (Addr × Obj)} {f : Str} (T : XfC X.K C) (hno : PySem.W.findIn X.K (.ref C) f = some none) (hz : Zc (.ref C) (some dd) oe) (hf : ∃ vs, oe.data = .fields vs)
    (hv : PE (X.suite a ((a, oe) :: pn)) (.Name n np) (tVar i)) (hb : attributeBase (.Name n np) f X.env (eval (.Name n np) X.env) = eval (.Name n np) X.env := by rfl) : DE (X.suite a ((a, oe) :: pn)) W (.Attribute (.Name n np) f pos) false (mEF i a dd f) :=
  PE.imp (pe_xf T hno hz hf hv hb) fun σ H Q ⟨F, own, δ, P, EK, A, ⟨nm, d, e, p⟩, q⟩ => by
    obtain ⟨s, hs, x, rfl, r⟩ := A.env.slot i _ e
    cases r with
    | exc hc h1 r1 => exact ⟨_, hs, rfl, rfl, dd, _, _, rfl, sub_le _ _ h1, by simp [List.lookup], q d _ H p (Same.refl H) (.cl r1)⟩
end
end DL

set_option Elab.async false
set_option linter.all false
set_option maxRecDepth 100000
set_option maxHeartbeats 4000000
/-! DL26: x += e; tables of classes; fields' names. -/
namespace DL
open PySem PySem.Spec PyProof.Rows L2
theorem fo_value : FldOk "value" := ⟨fun _ _ _ _ _ _ _ _ _ _ _ _ _ _ => rfl, by decide +kernel, fun _ _ _ _ => rfl, fun _ _ _ _ => rfl, by decide, fun _ _ _ _ _ _ => rfl, fun _ _ _ _ _ _ => rfl⟩
theorem fo_limit : FldOk "limit" := ⟨fun _ _ _ _ _ _ _ _ _ _ _ _ _ _ => rfl, by decide +kernel, fun _ _ _ _ => rfl, fun _ _ _ _ => rfl, by decide, fun _ _ _ _ _ _ => rfl, fun _ _ _ _ _ _ => rfl⟩
theorem fo_gap : FldOk "gap" := ⟨fun _ _ _ _ _ _ _ _ _ _ _ _ _ _ => rfl, by decide +kernel, fun _ _ _ _ => rfl, fun _ _ _ _ => rfl, by decide, fun _ _ _ _ _ _ => rfl, fun _ _ _ _ _ _ => rfl⟩
theorem fo_line : FldOk "line" := ⟨fun _ _ _ _ _ _ _ _ _ _ _ _ _ _ => rfl, by decide +kernel, fun _ _ _ _ => rfl, fun _ _ _ _ => rfl, by decide, fun _ _ _ _ _ _ => rfl, fun _ _ _ _ _ _ => rfl⟩
theorem fo_size : FldOk "size" := ⟨fun _ _ _ _ _ _ _ _ _ _ _ _ _ _ => rfl, by decide +kernel, fun _ _ _ _ => rfl, fun _ _ _ _ => rfl, by decide, fun _ _ _ _ _ _ => rfl, fun _ _ _ _ _ _ => rfl⟩
theorem fo_many : FldOk "many" := ⟨fun _ _ _ _ _ _ _ _ _ _ _ _ _ _ => rfl, by decide +kernel, fun _ _ _ _ => rfl, fun _ _ _ _ => rfl, by decide, fun _ _ _ _ _ _ => rfl, fun _ _ _ _ _ _ => rfl⟩
variable [TabsC]
section
variable {X : Cx} {W : WX} {e : Expr} {ba : Bool} {ma : TM} {pos pos' : Pos} {x : Str} {op : Operator}
/-! ### x += e, of ints -/
def fI2 (g : Int → Int → Int) (x y : D) (Q : D → Prop) : Prop := match x, y with
  | .int i, .int j => Q (.int (g i j))
  | _, _ => False
theorem e_fI2 {g : Int → Int → Int} {i j : Int} {Q : D → Prop} : fI2 g (.int i) (.int j) Q = Q (.int (g i j)) := rfl
abbrev fAugAdd := fI2 fun i j => i + j
abbrev fAugSub := fI2 fun i j => i - j
def sAug (i : Nat) (f : D → D → (D → Prop) → Prop) (ma : TM) : SM := fun δ k => ∃ x, δ[i]? = some (.v x) ∧ ma δ (fun y => f x y fun d => k.nx (δ.set i (.v d))) (k.er δ)
theorem ds_aug (i : Nat) {g : Int → Int → Int} (hN : X.N.Nodup) (ho : PIp X op (ipI g)) (he : DE X W e ba ma) (hi : X.N[i]? = some x := by rfl) (hx : Loc X.env.scope x := by first | exact .inl rfl | exact .inr rfl) (hf : X.fn x = true ∨ X.env.scope.names.lookup x = some .local := by first | exact .inl rfl | exact .inr rfl) :
    DS X W (.AugAssign (.Name x pos') op e pos) (sAug i (fI2 g) ma) :=
  PS.imp (ps_aug hN hi hx he ho hf) fun D σ H ⟨F, own, δ, κ, E, ⟨dx, hd, h⟩, L⟩ => by
    obtain ⟨s, hs, v, rfl, rv⟩ := E.slot i _ hd
    refine ⟨v, hs, F, own, δ, _, _, L.at E, h, fun dy w H1 m1 s1 r1 => ?_⟩
    unfold fI2 at m1
    split at m1
    · rename_i a b
      have e1 : v = .int a := by cases rv; rfl
      subst e1
      rw [r1.isInt]
      exact ⟨a, b, rfl, rfl, L.nx _ H1 own _ ((E.grow s1).set i (.int _)) m1⟩
    · exact m1.elim
end
/-! ### tables of classes -/
theorem HIsa.of {K : PySem.W.Frag} {names : List Str} {isa : Str → Str → Bool} (tbl : List (Str × Addr)) (h1 : names = tbl.map (·.1)) (hns : ∀ p ∈ tbl, PySem.W.nsIn K mainGlobals p.1 = some (some (.ref p.2)))
    (h2 : (tbl.all fun p => tbl.all fun q => decide (PySem.W.exmOne K (.ref p.2) (.ref q.2) = some (isa p.1 q.1))) = true) : HIsa K names isa := by
  refine ⟨fun n c Cn Cc hn hc en ec => ?_⟩
  rw [h1] at hn hc
  obtain ⟨p, hp, rfl⟩ := List.mem_map.mp hn
  obtain ⟨q, hq, rfl⟩ := List.mem_map.mp hc
  have ep := hns p hp
  have eq := hns q hq
  rw [ep] at en
  rw [eq] at ec
  cases en
  cases ec
  exact of_decide_eq_true (List.all_eq_true.mp (List.all_eq_true.mp h2 p hp) q hq)
def insTyB (K : PySem.W.Frag) (C : Addr) : Bool := PySem.W.plainGet K C Str.empty && (PySem.W.hasDictIn K C && (PySem.W.plainOver K C && (decide (PySem.W.findIn K (.ref C) "__setattr__" = some (some (.builtin "object.__setattr__"))) && (decide (PySem.W.findIn K (.ref C) "__class__" = some (some (.builtin "object.__class__"))) &&
  (decide (PySem.W.specialIn K (.builtin "object.__class__") "__get__" = some (some (.builtin "getset_descriptor.__get__"))) && (decide (PySem.W.takesIn K (.builtin "object.__class__") = some true) && decide (PySem.W.mroIn K C (.type "object") = some true)))))))
theorem insTy_of {K : PySem.W.Frag} {C : Addr} (h : insTyB K C = true) : InsTy K C := by
  unfold insTyB at h
  simp only [Bool.and_eq_true, decide_eq_true_eq] at h
  obtain ⟨a, b, c, d, e, f, g, i⟩ := h
  exact ⟨⟨a, b, c, d⟩, e, f, g, i⟩
theorem KitOwn.of {K : PySem.W.Frag} {others : List Str} (tbl : List (Str × Addr)) (h1 : others = tbl.map (·.1)) (nd : others.Nodup) (hns : ∀ p ∈ tbl, PySem.W.nsIn K mainGlobals p.1 = some (some (.ref p.2)))
    (h2 : (tbl.all fun p => tbl.all fun q => decide (PySem.W.kitOne K (.ref p.2) (.ref q.2) = some (decide (p.1 = q.1)))) = true) (h3 : (tbl.all fun p => insTyB K p.2) = true) : KitOwn K others := by
  refine ⟨fun m n Cm Cn hm hn em en => ?_, fun m Cm hm em => ?_⟩
  · rw [h1] at hm hn
    obtain ⟨p, hp, rfl⟩ := List.mem_map.mp hm
    obtain ⟨q, hq, rfl⟩ := List.mem_map.mp hn
    have ep := hns p hp
    have eq := hns q hq
    rw [ep] at em
    rw [eq] at en
    cases em
    cases en
    exact of_decide_eq_true (List.all_eq_true.mp (List.all_eq_true.mp h2 p hp) q hq)
  · rw [h1] at hm
    obtain ⟨p, hp, rfl⟩ := List.mem_map.mp hm
    have ep := hns p hp
    rw [ep] at em
    cases em
    exact insTy_of (List.all_eq_true.mp h3 p hp)
end DL

set_option Elab.async false
set_option linter.all false
set_option maxRecDepth 100000
set_option maxHeartbeats 4000000
/-! DL27: the sorted set of ints as a plain list; chains as pairwise divisions. -/
namespace DL
open PySem PySem.Spec PyProof.Rows L2
variable [TabsC]
theorem gapR_no {p : Int × Int} (h : p.2 % p.1 = 0) : gapR (pairD p) = none := by
  show (if p.2 % p.1 ≠ 0 then some (pairD p) else none) = none
  rw [if_neg (by simp [h])]
theorem gapR_yes {p : Int × Int} (h : ¬ p.2 % p.1 = 0) : gapR (pairD p) = some (pairD p) := by
  show (if p.2 % p.1 ≠ 0 then some (pairD p) else none) = _
  rw [if_pos h]
def insL (x : Int) : List Int → List Int
  | [] => [x]
  | y :: r => if x < y then x :: y :: r else if x = y then y :: r else y :: insL x r
def setL (xs : List Int) : List Int := xs.foldr insL []
theorem insL_mem {x k : Int} : ∀ {r : List Int}, k ∈ insL x r ↔ k = x ∨ k ∈ r
  | [] => by simp [insL]
  | y :: r => by
    have ih := @insL_mem x k r
    unfold insL
    split
    · simp
    · split
      · rename_i h; subst h; simp
      · simp only [List.mem_cons, ih]
        constructor
        · rintro (h | h | h)
          · exact .inr (.inl h)
          · exact .inl h
          · exact .inr (.inr h)
        · rintro (h | h | h)
          · exact .inr (.inl h)
          · exact .inl h
          · exact .inr (.inr h)
theorem insL_pair {x : Int} : ∀ {r : List Int}, r.Pairwise (· < ·) → (insL x r).Pairwise (· < ·)
  | [], _ => by simp [insL]
  | y :: r, h => by
    have h' := List.pairwise_cons.mp h
    unfold insL
    split
    · rename_i hx
      refine List.pairwise_cons.mpr ⟨fun k hk => ?_, h⟩
      rcases List.mem_cons.mp hk with rfl | hk
      · exact hx
      · exact Int.lt_trans hx (h'.1 k hk)
    · split
      · exact h
      · refine List.pairwise_cons.mpr ⟨fun k hk => ?_, insL_pair h'.2⟩
        rcases insL_mem.mp hk with rfl | hk
        · omega
        · exact h'.1 k hk
theorem setL_pair : ∀ {xs : List Int}, (setL xs).Pairwise (· < ·)
  | [] => List.Pairwise.nil
  | x :: r => insL_pair (setL_pair (xs := r))
theorem setL_mem {k : Int} : ∀ {xs : List Int}, k ∈ setL xs ↔ k ∈ xs
  | [] => Iff.rfl
  | x :: r => by
    show k ∈ insL x (setL r) ↔ _
    rw [insL_mem, setL_mem (xs := r), List.mem_cons]
theorem asc_ext : ∀ {xs ys : List Int}, xs.Pairwise (· < ·) → ys.Pairwise (· < ·) → (∀ k, k ∈ xs ↔ k ∈ ys) → xs = ys
  | [], [], _, _, _ => rfl
  | [], y :: r, _, _, h => by have := (h y).mpr List.mem_cons_self; cases this
  | x :: r, [], _, _, h => by have := (h x).mp List.mem_cons_self; cases this
  | x :: r, y :: t, hx, hy, h => by
    have hx' := List.pairwise_cons.mp hx
    have hy' := List.pairwise_cons.mp hy
    have e : x = y := by
      rcases List.mem_cons.mp ((h x).mp List.mem_cons_self) with e | m
      · exact e
      · rcases List.mem_cons.mp ((h y).mpr List.mem_cons_self) with e | m'
        · exact e.symm
        · have := hy'.1 x m; have := hx'.1 y m'; omega
    subst e
    refine congrArg (x :: ·) (asc_ext hx'.2 hy'.2 fun k => ⟨fun m => ?_, fun m => ?_⟩)
    · rcases List.mem_cons.mp ((h k).mp (List.mem_cons_of_mem _ m)) with e | m'
      · have := hx'.1 k m; omega
      · exact m'
    · rcases List.mem_cons.mp ((h k).mpr (List.mem_cons_of_mem _ m)) with e | m'
      · have := hy'.1 k m; omega
      · exact m'
theorem setL_of {ms xs : List Int} (h : ms.Pairwise (· < ·)) (hm : ∀ k, k ∈ ms ↔ k ∈ xs) : ms = setL xs := asc_ext h setL_pair fun k => (hm k).trans setL_mem.symm
theorem setL_id {ns : List Int} (h : ns.Pairwise (· < ·)) : setL ns = ns := (setL_of h fun _ => Iff.rfl).symm
theorem setL_congr {xs ys : List Int} (h : ∀ k, k ∈ xs ↔ k ∈ ys) : setL xs = setL ys := setL_of setL_pair fun k => setL_mem.trans (h k)
theorem setL_perm {ms xs : List Int} (hp : ms.Perm xs) (hn : xs.Nodup) (hs : ms.Pairwise (· ≤ ·)) : ms = setL xs := by
  refine setL_of ?_ fun k => hp.mem_iff
  have hn' : ms.Pairwise (· ≠ ·) := (hp.nodup_iff).mpr hn
  refine (hs.and hn').imp fun h => ?_
  obtain ⟨a, b⟩ := h
  omega
theorem setL_len {xs : List Int} : (setL xs).length ≤ xs.length := by
  induction xs with
  | nil => exact Nat.le_refl _
  | cons x r ih =>
    have : ∀ (t : List Int), (insL x t).length ≤ t.length + 1 := fun t => by
      induction t with
      | nil => exact Nat.le_refl _
      | cons y t ih2 =>
        unfold insL
        split
        · simp
        · split
          · simp
          · simp only [List.length_cons]; omega
    show (insL x (setL r)).length ≤ r.length + 1
    exact Nat.le_trans (this _) (by omega)
theorem pair_asc : ∀ {ns : List Int}, ascL ns = true → ns.Pairwise (· < ·)
  | [], _ => List.Pairwise.nil
  | [x], _ => by simp
  | x :: y :: r, h => by
    have h1 : (decide (x < y) && ascL (y :: r)) = true := h
    rw [Bool.and_eq_true, decide_eq_true_eq] at h1
    have ih := pair_asc h1.2
    refine List.pairwise_cons.mpr ⟨fun k hk => ?_, ih⟩
    rcases List.mem_cons.mp hk with rfl | hk
    · exact h1.1
    · exact Int.lt_trans h1.1 ((List.pairwise_cons.mp ih).1 k hk)
theorem gapL_cons {x y : Int} {r : List Int} : gapL (x :: y :: r) = if y % x = 0 then gapL (y :: r) else some (x, y) := by
  show (((x, y) :: nb (y :: r)).find? fun p => decide (p.2 % p.1 ≠ 0)) = _
  rw [List.find?_cons]
  by_cases h : y % x = 0
  · rw [if_pos h, show decide ((x, y).2 % (x, y).1 ≠ 0) = false from decide_eq_false (fun z => z h)]
    rfl
  · rw [if_neg h, show decide ((x, y).2 % (x, y).1 ≠ 0) = true from decide_eq_true h]
theorem pair_gap : ∀ {ns : List Int}, gapL ns = none → ns.Pairwise (· ∣ ·)
  | [], _ => List.Pairwise.nil
  | [x], _ => by simp
  | x :: y :: r, h => by
    rw [gapL_cons] at h
    split at h
    · rename_i hd
      have ih := pair_gap h
      have hd := Int.dvd_of_emod_eq_zero hd
      refine List.pairwise_cons.mpr ⟨fun k hk => ?_, ih⟩
      rcases List.mem_cons.mp hk with rfl | hk
      · exact hd
      · exact Int.dvd_trans hd ((List.pairwise_cons.mp ih).1 k hk)
    · cases h
theorem gap_pair : ∀ {ns : List Int}, ns.Pairwise (· ∣ ·) → gapL ns = none
  | [], _ => rfl
  | [x], _ => rfl
  | x :: y :: r, h => by
    have h' := List.pairwise_cons.mp h
    rw [gapL_cons, if_pos (Int.emod_eq_zero_of_dvd (h'.1 y List.mem_cons_self))]
    exact gap_pair h'.2
theorem asc_sub : ∀ {xs ys : List Int}, xs.Pairwise (· < ·) → ys.Pairwise (· < ·) → (∀ k, k ∈ xs → k ∈ ys) → xs.Sublist ys
  | [], ys, _, _, _ => List.nil_sublist _
  | x :: r, [], _, _, h => by have := h x List.mem_cons_self; cases this
  | x :: r, y :: t, hx, hy, h => by
    have hx' := List.pairwise_cons.mp hx
    have hy' := List.pairwise_cons.mp hy
    by_cases e : x = y
    · subst e
      refine (asc_sub hx'.2 hy'.2 fun k m => ?_).cons₂ x
      rcases List.mem_cons.mp (h k (List.mem_cons_of_mem _ m)) with e | m'
      · have := hx'.1 k m; omega
      · exact m'
    · have hxt : x ∈ t := by
        rcases List.mem_cons.mp (h x List.mem_cons_self) with e' | m
        · exact absurd e' e
        · exact m
      refine (asc_sub hx hy'.2 fun k m => ?_).cons y
      rcases List.mem_cons.mp (h k m) with e' | m'
      · rcases List.mem_cons.mp m with e2 | m2
        · exact absurd (e2.symm.trans e') e
        · have := hx'.1 k m2; have := hy'.1 x hxt; omega
      · exact m'
/-- a display that keeps some of the items, as the dice will -/
theorem compL_sub {g : GM} {mt : BM} {me : TM} {δ0 : List DV} : ∀ {ds : List D}, (∀ d, d ∈ ds → ∀ (R : D → Prop) (S : Prop), S → R d → g d δ0 fun δ' => mt δ' (fun b => if b = true then me δ' R NoE else S) NoE) →
    ∀ {acc : List D} {Q : D → Prop}, (∀ ys : List D, ys.Sublist ds → Q (.list (acc ++ ys))) → compL g mt me δ0 ds acc Q := by
  intro ds
  induction ds with
  | nil =>
    intro _ acc Q q
    have := q [] (List.Sublist.refl _)
    simpa [compL] using this
  | cons d ds ih =>
    intro h acc Q q
    unfold compL
    refine h d List.mem_cons_self _ _ ?_ ?_
    · exact ih (fun d' h' => h d' (List.mem_cons_of_mem _ h')) fun ys hy => q ys (hy.cons d)
    · refine ih (fun d' h' => h d' (List.mem_cons_of_mem _ h')) fun ys hy => ?_
      have := q (d :: ys) (hy.cons₂ d)
      rwa [List.append_assoc, List.singleton_append]
theorem sub_ints {ns : List Int} {ys : List D} (h : ys.Sublist (ns.map D.int)) : ∃ ms : List Int, ys = ms.map .int ∧ ms.Sublist ns := by
  obtain ⟨ms, hs, e⟩ := List.sublist_map_iff.mp h
  exact ⟨ms, e, hs⟩
theorem fineI (ns : List Int) : fineN 1 (.tup (ns.map .int)) := fineN_tup fun d hd => by
  obtain ⟨i, _, rfl⟩ := List.mem_map.mp hd
  exact fineN_int
theorem eqI {ns ms : List Int} : eqD (.tup (ns.map .int)) (.tup (ms.map .int)) = (ns == ms) := by rw [eqD_tup, eqAll_ints]
theorem fEq_I {ns ms : List Int} {R : Bool → Prop} (h : R (ns == ms)) : fEq (.tup (ns.map .int)) (.tup (ms.map .int)) R := ⟨(fineI ns).fine (by decide), (fineI ms).fine (by decide), by rw [eqI]; exact h⟩
theorem fNe_I {ns ms : List Int} {R : Bool → Prop} (h : R (!(ns == ms))) : fNe (.tup (ns.map .int)) (.tup (ms.map .int)) R := ⟨(fineI ns).fine (by decide), (fineI ms).fine (by decide), by rw [eqI]; exact h⟩
theorem fineP (p : Int × Int) : fineN 1 (pairD p) := fineN_tup fun d hd => by
  simp only [List.mem_cons, List.not_mem_nil, or_false] at hd
  rcases hd with rfl | rfl <;> exact fineN_int
theorem intI {ns ms : List Int} (h : D.tup (ns.map .int) = .tup (ms.map .int)) : ns = ms := by
  injection h with h
  exact (List.map_inj_right (fun a b e => by injection e)).mp h
end DL

set_option Elab.async false
set_option linter.all false
set_option maxRecDepth 100000
set_option maxHeartbeats 4000000
/-! DL28: three names set side by side. -/
namespace DL
open PySem PySem.Spec PyProof.Rows L2
variable [TabsC]
section
variable {X : Cx} {W : WX} {a b c e : Expr} {la : LM} {ba : Bool} {pos : Pos}
def sPar3 (i j l : Nat) (la : LM) : SM := fun δ k => la δ (fun ds => ∃ d e f, ds = [d, e, f] ∧ k.nx (((δ.set i (.v d)).set j (.v e)).set l (.v f))) (k.er δ)
theorem ds_par3 (i j l : Nat) {x y z : Str} {px py pz pt : Pos} {kt k2 : Nat} {pt2 : Pos} (hc : X.calm = true) (hN : X.N.Nodup) (ha : DA X W [a, b, c] false la) (hi : X.N[i]? = some x := by rfl) (hj : X.N[j]? = some y := by rfl) (hl : X.N[l]? = some z := by rfl) (hij : i ≠ j := by decide) (hil : i ≠ l := by decide) (hjl : j ≠ l := by decide)
    (hx : X.env.scope.names.lookup x = some .local := by rfl) (hy : X.env.scope.names.lookup y = some .local := by rfl) (hz : X.env.scope.names.lookup z = some .local := by rfl)
    (hw : swappedStores [.Tuple [.Name x px, .Name y py, .Name z pz] kt pt] (.Tuple [a, b, c] k2 pt2) X.env = pure (some [x, y, z]) := by rfl)
    (hs : swapsWithSole [.Tuple [.Name x px, .Name y py, .Name z pz] kt pt] (.Tuple [a, b, c] k2 pt2) pos.line X.env = pure false := by rfl) : DS X W (.Assign [.Tuple [.Name x px, .Name y py, .Name z pz] kt pt] (.Tuple [a, b, c] k2 pt2) pos) (sPar3 i j l la) :=
  PS.imp (ps_par3 hc hN hi hj hl hij hil hjl hx hy hz ha hw hs) fun D σ H ⟨F, own, δ, k, E, h, L⟩ => ⟨F, own, δ, _, _, L.at E, h, fun ds vs H' p s r => by
    obtain ⟨d, e, f, rfl, p⟩ := p
    have r := r.clean
    cases r with
    | cons r1 r => cases r with
      | cons r2 r => cases r with
        | cons r3 r => cases r; exact ⟨_, _, _, rfl, L.nx _ H' own _ ((((E.grow s).set i r1).set j r2).set l r3) p⟩⟩
end
theorem ex3 {α β γ : Type} {a : α} {b : β} {c : γ} {P : α → β → γ → Prop} : (∃ x y z, (a = x ∧ b = y ∧ c = z) ∧ P x y z) = P a b c := propext ⟨fun ⟨_, _, _, ⟨e, e', e''⟩, h⟩ => by subst e e' e''; exact h, fun h => ⟨a, b, c, ⟨rfl, rfl, rfl⟩, h⟩⟩
end DL

set_option Elab.async false
set_option linter.all false
set_option maxRecDepth 100000
set_option maxHeartbeats 4000000
/-! DL29: dicts: in, len, list(d), tuple(d), sorted(d), dict(d), dict(pairs), list(d.items()). -/
namespace DL
open PySem PySem.Spec PyProof.Rows L2
variable [TabsC]
/-! ### in, len -/
def rInY (K : PySem.W.Frag) (neg : Bool) : R2 := fun x y H Q => (∃ a o, y = .ref a ∧ DGet H a x o ∧ Q (.bl (neg ^^ o.isSome)) H) ∨ rInX K neg x y H Q
section
variable {X : Cx}
theorem op_inY (hu : X.A.units + 65 < cLine) : OpR X (compareOp .In) (rInY X.K false) := by
  intro pins s σ H x y v u Q I rx ry h
  rcases h with ⟨a, o, rfl, g, q⟩ | h
  · obtain rfl : u = Value.ref a := ry
    exact d_in (by omega) I g rx fun s' I' => ⟨.bl o.isSome, H, I', rfl, by simpa using q⟩
  · exact op_inX hu pins s σ H x y v u Q I rx ry h
theorem op_notInY (hu : X.A.units + 65 < cLine) : OpR X (compareOp .NotIn) (rInY X.K true) := by
  intro pins s σ H x y v u Q I rx ry h
  rcases h with ⟨a, o, rfl, g, q⟩ | h
  · obtain rfl : u = Value.ref a := ry
    exact d_notIn (by omega) I g rx fun s' I' => ⟨.bl (!o.isSome), H, I', rfl, by simpa using q⟩
  · exact op_notInX hu pins s σ H x y v u Q I rx ry h
def fInY (neg : Bool) (x y : D) (Q : Bool → Prop) : Prop := match y with
  | .dict ds => ∃ key : Key, x = keyD key ∧ Q (neg ^^ (valD ds key).isSome)
  | y => fInX neg x y Q
theorem link_inY {neg : Bool} : LinkCmp X.K (rInY X.K neg) (fInY neg) := by
  intro fo ls H x y dx dy P Q rx ry h q
  unfold fInY at h
  split at h
  · obtain ⟨key, e, h⟩ := h
    subst e
    rw [kV_of rx]
    obtain ⟨a, kvs, rfl, h1, h2, h3⟩ := ry.dict
    refine .inl ⟨a, valV kvs key, rfl, .inl ⟨kvs, key, h1, rfl, rfl⟩, ?_⟩
    rename_i ds
    cases e : valD ds key with
    | none =>
      rw [h3.none key e]
      rw [e] at h
      exact q _ h
    | some w =>
      obtain ⟨u, hu', ru⟩ := h3.val key e
      rw [hu']
      rw [e] at h
      exact q _ h
  · exact .inr (link_inX fo ls H x y dx _ P Q rx ry h q)
def rLenY (K : PySem.W.Frag) : List V → Hp → VK → Prop := fun xs H Q => (∃ a kvs, xs = [V.ref a] ∧ Rd H a (.dK kvs) ∧ Q (.int kvs.length) H) ∨ ∃ x n, xs = [x] ∧ LenV K x H n ∧ Q (.int n) H
theorem call_lenY : CallR X (.builtin "len") (rLenY X.K) := by
  intro pins s σ H xs us Q I r h
  rcases h with ⟨a, kvs, rfl, e, q⟩ | h
  · obtain ⟨u, rfl, rx⟩ := vals1 r
    obtain rfl : u = Value.ref a := rx
    exact d_len I e fun t s' I' => ⟨.int kvs.length, H, I', ⟨t, rfl⟩, q⟩
  · exact call_len pins s σ H xs us Q I r h
def fLenY (ds : List D) (Q : D → Prop) : Prop := match ds with
  | [.dict kvs] => Q (.int kvs.length)
  | ds => fLen ds Q
theorem link_lenY : LinkB X.K (rLenY X.K) fLenY := by
  intro fo ls H vs ds P Q ht r h q
  unfold fLenY at h
  split at h
  · obtain ⟨v, rfl, rr⟩ := r.one
    obtain ⟨a, kvs, rfl, h1, h2, h3⟩ := rr.dict
    refine .inl ⟨a, kvs, rfl, h1, ?_⟩
    rw [h3.len]
    exact q _ _ H h (Same.refl H) (.int _)
  · exact .inr (link_len fo ls H vs _ P Q ht r h q)
/-! ### list(d) -/
def rListY (K : PySem.W.Frag) : List V → Hp → VK → Prop := fun xs H Q => (∃ p kvs, xs = [V.ref p] ∧ Rd H p (.dK kvs) ∧ ∀ q, H q = none → Q (.ref q) (upd H q (.lst (kvs.map fun kv => kV kv.1)))) ∨
  ∃ p ys, xs = [V.ref p] ∧ (SqL K H p ys ∨ SqT K H p ys) ∧ ∀ l, H l = none → Q (V.ref l) (upd H l (.lst ys))
theorem keys_vals {kvs : List (Key × V)} {vs : List (Key × Value)} (rk : KV kvs vs) {us : List Value} (hl : us.length = vs.length) (hi : ∀ (j : Nat) (u : Value), us[j]? = some u → ∃ k y, vs[j]? = some (k, y) ∧ keyIs k u = true) : Vals (kvs.map fun kv => kV kv.1) us := by
  refine vals_of_at (by rw [List.length_map, rk.length, hl]) fun j x w h1 h2 => ?_
  obtain ⟨k, y, hky, hi'⟩ := hi j w h2
  have e1 : (kvs.map (·.1))[j]? = some k := by rw [rk.keys, List.getElem?_map, hky] <;> rfl
  have e3 : (kvs.map fun kv => kV kv.1) = (kvs.map (·.1)).map kV := by rw [List.map_map] <;> rfl
  rw [e3, List.getElem?_map, e1] at h1
  cases h1
  exact keyIs_rel hi'
theorem call_listY (hc : X.calm = true) : CallR X (.type "list") (rListY X.K) := by
  intro pins s σ H xs us Q I r h
  rcases h with ⟨p, kvs, rfl, hk, q⟩ | h
  · obtain ⟨u, rfl, rx⟩ := vals1 r
    obtain rfl : u = Value.ref p := rx
    obtain ⟨z, lo, vs, rk, hd⟩ := dk_rd I.hok hk
    obtain ⟨ep, hat⟩ := hd.dictAt
    have hl := rk.length
    refine PySem.W.kdl_call (PySem.W.kdl_dict (knd := mixKind X.prog X.w) (kvs := vs) (ep := ep) lo) (I.ok.hd hc) hat (by omega) fun h' tk acc' c' hkeep hS hacc => ?_
    have ok : ObjOk X.prog X.w (upd H s.heap.objs.size (.lst (kvs.map fun kv => kV kv.1))) h' s.heap.objs.size (.lst (kvs.map fun kv => kV kv.1)) := by
      refine ⟨by rw [List.length_map]; exact z, acc'.toList, c', keys_vals rk (by rw [Array.length_toList]; exact hacc.1) fun j u e => ?_, by rw [Array.toArray_toList]; exact hS⟩
      exact hacc.2 j u (by rw [← Array.getElem?_toList]; exact e)
    exact ⟨.ref s.heap.objs.size, _, I.laid hkeep (Nat.le_refl _) ok, rfl, q _ (I.hok.fresh (Nat.le_refl _))⟩
  · exact call_list_of pins s σ H xs us Q I r h
end
theorem RepKs.keysR {K : PySem.W.Frag} {H : Hp} : ∀ {vs : List (Key × V)} {ds : List (Key × D)}, RepKs K H vs ds → Reps K H (vs.map fun kv => kV kv.1) (ds.map fun kv => keyD kv.1)
  | _, _, .nil => .nil
  | _, _, .cons h r => .cons (rep_key _) r.keysR
section
variable {X : Cx}
def fListY (ds : List D) (Q : D → Prop) : Prop := match ds with
  | [.dict kvs] => Q (.list (kvs.map fun kv => keyD kv.1))
  | ds => fList ds Q
theorem link_listY : LinkF X.K (rListY X.K) fListY := by
  intro fo ls H vs ds P Q ht r h q
  unfold fListY at h
  split at h
  · obtain ⟨v, rfl, rr⟩ := r.one
    obtain ⟨a, kvs, rfl, h1, h2, h3⟩ := rr.dict
    exact .inl ⟨a, kvs, rfl, h1, fun l hl => q _ _ _ h hl (same_upd hl) (.l upd_same (by rw [List.length_map]; exact h2) (h3.keysR.mono (sub_fresh hl (same_upd hl))))⟩
  · exact .inr (link_list fo ls H vs _ P Q ht r h q)
end
/-! ### tuple(d) -/
section
variable {prog : Program} {w : World} {A : Around} {E : Value → Shared → Prop} {s : Shared} {r d : Addr} {n : Nat} {P : Nat → Value → Prop} {OK : Heap → Prop} {T : String}
theorem collect_src {Q : List Value → Shared → Prop} (S : PySem.W.KdlSrc prog w T r d n P OK) (hh : A.handled = none) (hok : OK s.heap) (hn : n ≤ sizeLine)
    (hQ : ∀ (h' : Heap) (tk : Nat) (acc : Array Value), (∀ b o, s.heap.get? b = some o → h'.get? b = some o) → ItemsOf P acc n → Q acc.toList { s with heap := h', toks := tk }) :
    wpAny (model prog w) A (collect (.ref r)) Q E s := by
  unfold collect
  refine wpAny_bind (wpAny_runValue (codeAny_builtin F.entry_proto_collect ?_))
  rw [Around.under_plainId F.plain_proto_collect _]
  show wpAny _ A.in1 (newList [] >>= fun l => again (.builtin "list.__iadd__" ⟨[l, .ref r], []⟩)) _ _ s
  refine wpAny_bind (wpAny_newObj_type ?_)
  refine wpAny_pure ⟨plainId_quiet F.plain_list_iadd _, codeAny_builtin F.entry_list_iadd ?_⟩
  rw [Around.under_plainId F.plain_list_iadd _]
  show wpAny _ A.in1 (Builtin.List.listExtendWith (.ref s.heap.objs.size) (.ref r) (.ref s.heap.objs.size)) _ _ _
  have h0 : (s.heap.push { cls := .type "list", data := .seq ([] : List Value).toArray }).get? s.heap.objs.size = some { cls := .type "list", data := .seq #[] 0 } := Heap.get?_push_size _ rfl
  have hok1 : OK (s.heap.push { cls := .type "list", data := .seq ([] : List Value).toArray }) := S.keep _ _ hok fun b _ o e => Heap.get?_push_of_some _ e
  have hlt := S.there _ hok
  refine wpAny_mono (PySem.W.kdl_extend (A := A) (R := fun rr s' => rr = .ok (.ret (.ref s.heap.objs.size)) ∧ ∃ (h' : Heap) (tk : Nat) (acc : Array Value) (c' : Nat), s' = { s with heap := h', toks := tk } ∧
      (∀ b o, s.heap.get? b = some o → h'.get? b = some o) ∧ h'.get? s.heap.objs.size = some { cls := .type "list", dict := none, data := .seq acc c', slots := #[] } ∧ ItemsOf P acc n)
    (s := { s with heap := s.heap.push { cls := .type "list", data := .seq ([] : List Value).toArray } }) S hh hok1 s.heap.objs.size (Nat.ne_of_gt hlt.1) (Nat.ne_of_gt hlt.2) _ 0 h0
    (fun h' tk acc c' hk e hi => ⟨rfl, h', tk, acc, c', rfl, fun b o q => hk b o (Nat.ne_of_lt (Heap.lt_size q)) (Heap.get?_push_of_some _ q), e, hi⟩) hn) (fun fin s' h => ?_) (fun e s' h => ?_)
  · cases fin with
    | done f =>
      obtain ⟨e, h', tk, acc, c', rfl, hk, hS', hi⟩ := h
      cases e
      show wpAny _ A (load s.heap.objs.size >>= _) _ _ _
      exact wpAny_bind (wpAny_load hS' (wpAny_pure (hQ h' tk acc hk hi)))
    | again c' =>
      refine ⟨h.1, codeAny_mono h.2 fun rr s'' hr' => ?_⟩
      obtain ⟨rfl, h', tk, acc, c', rfl, hk, hS', hi⟩ := hr'
      show wpAny _ A (load s.heap.objs.size >>= _) _ _ _
      exact wpAny_bind (wpAny_load hS' (wpAny_pure (hQ h' tk acc hk hi)))
  · exact absurd h.1 (by simp)
theorem code_tuple_dict {Q₁ : Value → Shared → Prop} (S : PySem.W.KdlSrc prog w "dict" r d n P OK) (hh : A.handled = none) (hok : OK s.heap) (hn : n ≤ sizeLine)
    (h : ∀ (h' : Heap) (tk : Nat) (acc : Array Value), (∀ b o, s.heap.get? b = some o → h'.get? b = some o) → ItemsOf P acc n →
      Q₁ (.ref h'.objs.size) { s with heap := h'.push { cls := .type "tuple", data := .seq acc }, toks := tk }) :
    codeAny (model prog w) A (.call (.builtin "tuple.__new__") ⟨[.type "tuple", .ref r], []⟩) (wants Q₁ E) s := by
  refine codeAny_of_tree ?_
  show wpAny _ A.in1 (do checkBuiltinCall "tuple.__new__" ⟨[.type "tuple", .ref r], []⟩; again (.builtin "tuple.__new__" ⟨[.type "tuple", .ref r], []⟩)) _ _ s
  refine wpAny_bind (wpAny_of_eq (F.newCall_tuple_1 _) (wpAny_pure ⟨plainId_quiet F.plain_tuple_new _, codeAny_builtin F.entry_tuple_new ?_⟩))
  rw [Around.under_plainId F.plain_tuple_new _]
  have hsub := sub_tuple_self
  have hinit := init_tuple_lookup
  have hmh := madeHere_tuple
  have hTI : s.TypeIs (.ref r) "dict" := S.type s hok
  have hh1 : A.in1.handled = none := hh
  wp_walk using wpAny_typeOf hTI, collect_src (A := A.in1) S hh1 hok hn
  intro h' tk acc hk hacc
  show wpAny _ _ (Builtin.Tuple.tupleExact acc.toList.toArray >>= fun v => ret v) _ _ _
  unfold Builtin.Tuple.tupleExact
  have e : acc.toList.toArray = acc := Array.toArray_toList
  refine wpAny_bind (wpAny_newObj_type ?_ (by show acc.toList.toArray.size ≤ sizeLine; rw [e, hacc.1]; exact hn))
  refine wpAny_pure ?_
  rw [e]
  exact h h' tk acc hk hacc
theorem call_tuple_dict {Q : Value → Shared → Prop} (S : PySem.W.KdlSrc prog w "dict" r d n P OK) (hh : A.handled = none) (hok : OK s.heap) (hn : n ≤ sizeLine)
    (hQ : ∀ (h' : Heap) (tk : Nat) (acc : Array Value), (∀ b o, s.heap.get? b = some o → h'.get? b = some o) → ItemsOf P acc n →
      Q (.ref h'.objs.size) { s with heap := h'.push { cls := .type "tuple", data := .seq acc }, toks := tk }) : wpAny (model prog w) A (call (.type "tuple") [.ref r]) Q E s := by
  refine callType_codes (Q₁ := fun obj s₁ => s₁.TypeIs obj "tuple" ∧ Q obj s₁) F.called_tuple (F.typeCall_tuple_1 _) F.entry_object_init
    (code_tuple_dict (A := A.in1) S hh hok hn fun h' tk acc hk hacc => ⟨⟨_, Heap.get?_push_size _ rfl, rfl⟩, hQ h' tk acc hk hacc⟩) fun obj s₁ h₁ => ?_
  exact ⟨h₁.1, F.args_object_init_2 obj _, object_init_meets F.called_tuple.init.lookup F.called_tuple.made (by decide) prog w A.in1 _ s₁ ⟨h₁.1, rfl, h₁.2⟩⟩
end
def rTupY (K : PySem.W.Frag) : List V → Hp → VK → Prop := fun xs H Q => (∃ p kvs, xs = [V.ref p] ∧ Rd H p (.dK kvs) ∧ ∀ q, H q = none → Q (.ref q) (upd H q (.tup (kvs.map fun kv => kV kv.1)))) ∨
  ∃ p ys, xs = [V.ref p] ∧ ((SqL K H p ys ∧ ∀ l, H l = none → Q (V.ref l) (upd H l (.tup ys))) ∨ (SqT K H p ys ∧ Q (.ref p) H))
section
variable {X : Cx}
theorem call_tupY (hc : X.calm = true) : CallR X (.type "tuple") (rTupY X.K) := by
  intro pins s σ H xs us Q I r h
  rcases h with ⟨p, kvs, rfl, hk, q⟩ | h
  · obtain ⟨u, rfl, rx⟩ := vals1 r
    obtain rfl : u = Value.ref p := rx
    obtain ⟨z, lo, vs, rk, hd⟩ := dk_rd I.hok hk
    obtain ⟨ep, hat⟩ := hd.dictAt
    have hl := rk.length
    refine call_tuple_dict (PySem.W.kdl_dict (knd := mixKind X.prog X.w) (kvs := vs) (ep := ep) lo) (I.ok.hd hc) hat (by omega) fun h' tk acc hkeep hacc => ?_
    have I1 : Inv X pins σ H { s with heap := h', toks := tk } := I.kept (t' := tk) hkeep
    have ok : ObjOk X.prog X.w (upd H h'.objs.size (.tup (kvs.map fun kv => kV kv.1))) (h'.push { cls := .type "tuple", data := .seq acc }) h'.objs.size (.tup (kvs.map fun kv => kV kv.1)) := by
      refine ⟨by rw [List.length_map]; exact z, acc.toList, keys_vals rk (by rw [Array.length_toList]; exact hacc.1) fun j u e => ?_, ?_⟩
      · exact hacc.2 j u (by rw [← Array.getElem?_toList]; exact e)
      · have := IsTup.new h' acc
        rw [Array.toArray_toList]
        exact this
    exact ⟨.ref h'.objs.size, _, I1.laid (t' := tk) (fun b o e => Heap.get?_push_of_some _ e) (Nat.le_refl _) ok, rfl, q _ (I1.hok.fresh (Nat.le_refl _))⟩
  · exact call_tuple_of pins s σ H xs us Q I r h
def fTupleY (ds : List D) (Q : D → Prop) : Prop := match ds with
  | [.dict kvs] => Q (.tup (kvs.map fun kv => keyD kv.1))
  | ds => fTuple ds Q
theorem link_tupleY : LinkB X.K (rTupY X.K) fTupleY := by
  intro fo ls H vs ds P Q ht r h q
  unfold fTupleY at h
  split at h
  · obtain ⟨v, rfl, rr⟩ := r.one
    obtain ⟨a, kvs, rfl, h1, h2, h3⟩ := rr.dict
    exact .inl ⟨a, kvs, rfl, h1, fun l hl => q _ _ _ h (same_upd hl) (new_tup ht hl (by rw [List.length_map]; exact h2) h3.keysR)⟩
  · exact .inr (link_tuple fo ls H vs _ P Q ht r h q)
/-! ### sorted(d), dict(d), dict(pairs) -/
def fSortK (ds : List D) (Q : D → Prop) : Prop := ∃ (kvs : List (Key × D)) (ns : List Int), ds = [.dict kvs] ∧ kvs.map (·.1) = ns.map Sum.inl ∧ ns.length < 64 ∧ ∀ ms : List Int, ms.Perm ns → ms.Pairwise (· ≤ ·) → Q (.list (ms.map .int))
theorem link_sortK : LinkF X.K (fun xs H Q => ∃ (a : Addr) (kvs : List (Key × V)) (ks : List Int), xs = [V.ref a] ∧ Rd H a (.dK kvs) ∧ kvs.map (·.1) = ks.map Sum.inl ∧ ks.length < 64 ∧
    ∀ (ys : List Int) (p : Addr), ys.Perm ks → ys.Pairwise (· ≤ ·) → H p = none → Q (.ref p) (upd H p (.lst (ys.map V.int)))) fSortK := by
  intro fo ls H vs ds P Q ht r ⟨kvs, ns, e, hk, hl, h⟩ q
  subst e
  obtain ⟨v, rfl, rr⟩ := r.one
  obtain ⟨a, xs, rfl, h1, h2, h3⟩ := rr.dict
  refine ⟨a, xs, ns, rfl, h1, h3.keys0.trans hk, hl, fun ms p hp hs hn => q _ _ _ (h ms hp hs) hn (same_upd hn) (.l upd_same ?_ (Reps.ints ms))⟩
  rw [List.length_map, hp.length_eq, sizeLine_eq]
  omega
theorem call_copyY : CallR X (.type "dict") (fun xs H Q => ∃ a kvs, xs = [V.ref a] ∧ Rd H a (.dK kvs) ∧ ∀ p, H p = none → Q (.ref p) (upd H p (.dK kvs))) := by
  intro pins s σ H xs us Q I r ⟨a, kvs, e, h1, q⟩
  subst e
  obtain ⟨u, rfl, rx⟩ := vals1 r
  obtain rfl : u = Value.ref a := rx
  exact d_copyOf I h1 fun p s' hp I' => ⟨.ref p, _, I', rfl, q p hp⟩
def fDictC (ds : List D) (Q : D → Prop) : Prop := ∃ kvs, ds = [.dict kvs] ∧ Q (.dict kvs)
theorem link_dictC : LinkF X.K (fun xs H Q => ∃ a kvs, xs = [V.ref a] ∧ Rd H a (.dK kvs) ∧ ∀ p, H p = none → Q (.ref p) (upd H p (.dK kvs))) fDictC := by
  intro fo ls H vs ds P Q ht r ⟨kvs, e, h⟩ q
  subst e
  obtain ⟨v, rfl, rr⟩ := r.one
  obtain ⟨a, xs, rfl, h1, h2, h3⟩ := rr.dict
  exact ⟨a, xs, rfl, h1, fun p hp => q _ _ _ h hp (same_upd hp) (.d upd_same h2 (h3.mono (sub_fresh hp (same_upd hp))))⟩
def fDictP (ds : List D) (Q : D → Prop) : Prop := ∃ kvs : List (Key × D), ds = [.list (kvs.map pairKD)] ∧ Q (.dict (mergeD [] kvs))
theorem reps_pairs {K : PySem.W.Frag} {fo ls : List Addr} {H H' : Hp} (hs : ∀ {a : Addr} {ys : List V}, SqT K (sub H ls) a ys → SqT K H' a ys) : ∀ {xs : List V} {kvs : List (Key × D)}, Reps K (sub H ls) xs (kvs.map pairKD) →
    ∃ (ps : List Addr) (ws : List (Key × V)), xs = ps.map V.ref ∧ Paired (fun p kv => SqT K H' p [kV kv.1, kv.2]) ps ws ∧ RepKs K (sub H ls) ws kvs
  | _, [], r => by
    cases r
    exact ⟨[], [], rfl, .nil, .nil⟩
  | _, (k, d) :: t, r => by
    cases r with
    | cons h rt =>
      obtain ⟨ps, ws, rfl, h1, h2⟩ := reps_pairs (fo := fo) hs rt
      cases h with
      | tup g1 g2 g3 =>
        cases g3 with
        | cons ra rb =>
          cases rb with
          | cons rb rc =>
            cases rc
            have ek := kV_of (fo := fo) (ls := ls) (b := true) (RV.cl ra)
            subst ek
            exact ⟨_ :: ps, (k, _) :: ws, rfl, .cons (hs g1) h1, .cons rb h2⟩
theorem link_dictP : LinkF X.K (fun xs H Q => ∃ (a : Addr) (ps : List Addr) (kvs : List (Key × V)), xs = [V.ref a] ∧ SqL X.K H a (ps.map V.ref) ∧ Paired (fun p kv => SqT X.K H p [kV kv.1, kv.2]) ps kvs ∧
    ∀ p, H p = none → Q (.ref p) (upd H p (.dK (mergeK [] kvs)))) fDictP := by
  intro fo ls H vs ds P Q ht r ⟨kvs, e, h⟩ q
  subst e
  obtain ⟨v, rfl, rr⟩ := r.one
  obtain ⟨a, xs, rfl, h1, h2, h3⟩ := rr.list
  obtain ⟨ps, ws, rfl, g1, g2⟩ := reps_pairs (fo := fo) (H' := H) (fun z => sameT sub_le z) h3
  refine ⟨a, ps, ws, rfl, .of h1, g1, fun p hp => q _ _ _ h hp (same_upd hp) (.d upd_same ?_ ((RepKs.merge g2 .nil).mono (sub_fresh hp (same_upd hp))))⟩
  have := length_mergeK ws []
  have := g2.len
  have := h3.length
  rw [List.length_map] at *
  simp only [List.length_nil, List.length_map] at *
  omega
end
end DL

set_option Elab.async false
set_option linter.all false
set_option maxRecDepth 100000
set_option maxHeartbeats 4000000
/-! DL30: dict comprehensions, list(d.items()), sums, == of dicts. -/
namespace DL
open PySem PySem.Spec PyProof.Rows L2
variable [TabsC]
def compD (g : GM) (mt : BM) (mk mv : TM) (δ0 : List DV) : List D → List (Key × D) → (D → Prop) → Prop
  | [], acc, Q => Q (.dict acc)
  | d :: ds, acc, Q => g d δ0 fun δ' => mt δ' (fun b => if b = true then mk δ' (fun kd => mv δ' (fun v => ∃ key : Key, kd = keyD key ∧ compD g mt mk mv δ0 ds (putD acc key v) Q) NoE) NoE else compD g mt mk mv δ0 ds acc Q) NoE
def mCompD (vs : List Nat) (mi : LM) (g : GM) (mt : BM) (mk mv : TM) : TM := fun δ Q E => mi δ (fun ds => compD g mt mk mv (wipeD δ vs) ds [] Q) E
section
variable {X : Cx} {W : WX} {pos p apos cpos : Pos} {ba : Bool} {e : Expr} {ma : TM}
theorem df_compD {kx vx tg it : Expr} {ifs : List Expr} {scope : Scope} {own : List (Str × Nat)} {mi : LM} {g : GM} {mt : BM} {mk mv : TM} (hc : X.calm = true) (hN : X.N.Nodup) (hi : DI X W tg it ba mi) (ok : BlkOk X.N X.env.scope scope own)
    (hg : ∀ (s : Shared) (H : Hp) (C : Addr) (cl : List (Str × Addr)) (fp : List Addr), DGw (X.blk s H scope (compEnvC scope cl C X.env) fp) (own.map (·.2)) tg g) (ht : ∀ (s : Shared) (H : Hp) (C : Addr) (cl : List (Str × Addr)) (fp : List Addr), DTs (X.blk s H scope (compEnvC scope cl C X.env) fp) NoW ifs mt)
    (hk : ∀ (s : Shared) (H : Hp) (C : Addr) (cl : List (Str × Addr)) (fp : List Addr), DE (X.blk s H scope (compEnvC scope cl C X.env) fp) NoW kx false mk) (he : ∀ (s : Shared) (H : Hp) (C : Addr) (cl : List (Str × Addr)) (fp : List Addr), DE (X.blk s H scope (compEnvC scope cl C X.env) fp) NoW vx false mv)
    (hs : ∀ x, foldedSetIterable it X.env x = pure x := by intro _; rfl) : DF X W (.DictComp kx vx [⟨tg, it, ifs, 0⟩] scope pos) (mCompD (own.map (·.2)) mi g mt mk mv) :=
  PE.imp (pe_dc (g := tgw X.K (List.map (fun x : Str × Nat => x.2) own) g) (tt := tb X.K NoW mt) (tk := tm X.K NoW false mk) (tv := tm X.K NoW false mv) hc hN hi ok hg ht hk he hs) fun σ H Q ⟨F, ow, δ, P, EK, A, m, q⟩ => by
    refine ⟨F, ow, δ, _, EK, A, m, fun ds J H1 hds s1 ok => ?_⟩
    intro Dn hD
    have E1 := A.env.grow s1
    have nodn : ∀ (j : Nat) (dj : D), (wipeD δ (own.map (·.2)))[j]? = some (.m dj) → (L2.wipe σ (own.map (·.2)))[j]? ≠ some (some (.ref Dn)) := fun j dj h z => by
      obtain ⟨s, e1, a, e2, ha, _⟩ := (E1.wipe (own.map (·.2))).slot j _ h
      rw [e1] at z; cases z
      cases e2
      obtain ⟨o, q, nn⟩ := E1.trk Dn (List.mem_append_right _ ha)
      rw [hD] at q; cases q
    let Z : Nat → Hp → Prop := fun i H => Same H1 H ∧ EnvD X.K F (Dn :: ow) (L2.wipe σ (own.map (·.2))) (wipeD δ (own.map (·.2))) H ∧ ∃ kvs acc, H Dn = some (.dK kvs) ∧ kvs.length ≤ i ∧ RepKs X.K (sub H (F.ls0 ++ (Dn :: ow))) kvs acc ∧ compD g mt mk mv (wipeD δ (own.map (·.2))) (ds.drop i) acc P
    refine ⟨fun i n H => n = ds.length - i ∧ i ≤ ds.length ∧ Z i H, ⟨_, rfl, Nat.zero_le _, same_upd hD, (E1.wipe _).grab hD (same_upd hD) ⟨_, upd_same, plain_of⟩, [], [], upd_same, Nat.le_refl _, .nil, hds⟩, ?_⟩
    rintro i n H2 ⟨rfl, hi2, s2, E2, kvs, acc, hx, hl, rx, q2⟩
    have sg : Grow (flo ba H1 (F.ls0 ++ ow)) H2 := flo_le.trans s2.ob
    have sb : Grow (sub H1 (F.ls0 ++ ow)) (sub H2 (F.ls0 ++ (Dn :: ow))) := by
      rw [← sub_congr (H := H2) (mem_swap (ls := F.ls0) (own := ow) (p := Dn))]
      exact sub_fresh hD s2
    by_cases hlt : i < ds.length
    · refine .inr ⟨ok.go i H2 sg hlt, Z (i + 1), fun H' z => ⟨_, (by omega), rfl, hlt, z⟩, fun x H3 y => ?_⟩
      obtain ⟨d, ed, s3, r3⟩ := ok.yld i H2 x H3 (F.ls0 ++ (Dn :: ow)) sg sb E2.trk hlt y
      rw [drop_get ed] at q2
      have hz : kvs.length < sizeLine := Nat.lt_of_le_of_lt hl (Nat.lt_of_lt_of_le hlt ok.sz)
      refine ⟨F, Dn :: ow, _, d, _, E2.grow s3, r3, q2, fun σ4 δ4 E4 w4 q4 => ⟨by rw [w4]; exact wipe_wipe, F, Dn :: ow, δ4, _, NoE, ⟨E4, noPass⟩, q4, fun b H5 p5 s5 => ?_⟩⟩
      cases b with
      | false =>
        have p5' : compD g mt mk mv (wipeD δ (own.map (·.2))) (ds.drop (i + 1)) acc P := by simpa using p5
        exact iteF ⟨(s2.trans s3).trans s5, E2.grow (s3.trans s5), kvs, acc, s5 _ _ (s3 _ _ hx), Nat.le_succ_of_le hl, rx.mono (sub_same (s3.trans s5)), p5'⟩
      | true =>
        rw [if_pos rfl] at p5
        refine iteT ⟨F, Dn :: ow, δ4, _, NoE, ⟨E4.grow s5, noPass⟩, p5, fun kd kv H6 p6 s6 r6 => ⟨F, Dn :: ow, δ4, _, NoE, ⟨(E4.grow s5).grow s6, noPass⟩, p6, fun yd v H7 ⟨key, ek, p7⟩ s7 r7 => ?_⟩⟩
        subst ek
        have ekv := kV_of r6
        subst ekv
        have s67 := s6.trans s7
        have hx7 := s67 _ _ (s5 _ _ (s3 _ _ hx))
        have all := ((s3.trans s5).trans s67)
        have es : sub (upd H7 Dn (.dK (putK kvs key v))) (F.ls0 ++ (Dn :: ow)) = sub H7 (F.ls0 ++ (Dn :: ow)) := sub_upd (List.mem_append_right _ List.mem_cons_self)
        have sn : Same H1 (upd H7 Dn (.dK (putK kvs key v))) := Same.put (s2.trans all) hD hx7
        refine ⟨kvs, key, rfl, hx7, hz, sn, (E2.grow all).poke List.mem_cons_self hx7 nodn, putK kvs key v, putD acc key yd, upd_same, ?_, ?_, p7⟩
        · have := putK_len kvs key v
          omega
        · rw [es]
          exact (rx.mono (sub_same all)).put r7.clean
    · have e : i = ds.length := by omega
      subst e
      rw [List.drop_length] at q2
      refine .inl ⟨ok.stop _ H2 sg rfl, q _ Dn H2 q2 (s1.free hD) (s1.trans s2) (.d hx (Nat.le_trans hl ok.sz) ?_)⟩
      rw [sub_congr (H := H2) (mem_swap (ls := F.ls0) (own := ow) (p := Dn))]
      exact rx
/-! ### list(d.items()) -/
def rItemsY : V → Hp → VK → Prop := fun x H Q => ∃ (d : Addr) (kvs : List (Key × V)), x = .ref d ∧ Rd H d (.dK kvs) ∧
  ∀ (H' : Hp) (p : Addr) (ts : List Addr), (∀ b o, H b = some o → H' b = some o) → H p = none → (∀ t ∈ ts, H t = none) → p ∉ ts → H' p = some (.lst (ts.map V.ref)) → Paired (fun (t : Addr) (q : Key × V) => H' t = some (.tup [kV q.1, q.2])) ts kvs → Q (.ref p) H'
theorem pe_itemsY {te : TE} (hc : X.calm = true) (he : PE X e te) (hg : Gl X "list") (hm : X.mg "list" = none) (hv : bootBuiltins "list" = some (.type "list")) (hbase : attributeBase e "items" X.env (eval e X.env) = eval e X.env := by rfl) (hline : (apos.endLine == cpos.line) = true := by rfl)
    (hs : starEach [.Call (.Attribute e "items" apos) [] [] cpos] X.env = (false, eval (.Call (.Attribute e "items" apos) [] [] cpos) X.env) :: starEach [] X.env := by rfl) :
    PE X (.Call (.Name "list" p) [.Call (.Attribute e "items" apos) [] [] cpos] [] pos) (fun σ H Q => te σ H fun x H1 => rItemsY x H1 Q) := by
  refine ⟨fun pins s σ H Q I hq => ?_⟩
  refine wpAny_Call_Name_kw (ld_blt I hg hm hv (PyProof.Rows.callWith_type1 ?_ hs rfl))
  rw [hs]
  change wpAny _ _ (spliced ((false, eval (.Call (.Attribute e "items" apos) [] [] cpos) X.env) :: backTo pos (starEach [] X.env))) _ _ s
  refine Calls.spliced_cons ?_
  refine wpAny_Call_method (T := "dict") (id := "dict.items") hbase rfl hline F.plainAttrs_dict F.slot_dict_items F.type_dict_items (thn (he.run pins s σ H _ I hq) fun u s1 ⟨x, H1, I1, rx, d, kvs, ex, hd, q⟩ => ?_)
  subst ex
  obtain rfl : u = Value.ref d := rx
  obtain ⟨hz, hs0, vs, kv, hdo⟩ := dk_rd I1.hok hd
  obtain ⟨ep, hat⟩ := hdo.dictAt
  have lk := kv.length
  have I2 : Inv X pins σ H1 { s1 with heap := s1.heap.push { cls := .type "dict_items", data := .fields #[.ref d] } } := I1.kept (t' := s1.toks) fun b ob q => Heap.get?_push_of_some _ q
  refine ⟨hdo.typeIs, hdo.mapOf.noDict, ?_⟩
  refine method_meetsIn F.slot_dict_items F.entry_dict_items rfl (PySem.evalArgs_none ⟨rfl, hdo.typeIs, F.args_dict_items_1 _, _, meets_dict_items (mixKind X.prog X.w) d hs0, ⟨vs, hdo⟩, ?_⟩)
  refine Calls.spliced_nil (PySem.W.kdx_call (knd := mixKind X.prog X.w) (kvs := vs) (ep := ep) (I1.ok.hd hc) ⟨_, Heap.get?_push_size _ rfl, rfl, rfl⟩ (hat.push _) (by omega) fun h' tk acc c as hk hS hl hG hacc => ?_)
  obtain ⟨H', k1, k2, k3, k4, k5, k6, J⟩ := LiI.items_laid (tk := tk) I2 hz kv hk hS hl hG hacc
  exact ⟨.ref _, H', J, rfl, q H' _ as k1 k2 k3 k4 k5 k6⟩
end
theorem reps_items {K : PySem.W.Frag} {H' : Hp} {H2 : Hp} : ∀ {ts : List Addr} {kvs : List (Key × V)} {ds : List (Key × D)}, Paired (fun (t : Addr) (q : Key × V) => H' t = some (.tup [kV q.1, q.2])) ts kvs → RepKs K H2 kvs ds → (∀ t, t ∈ ts → H2 t = H' t) → Reps K H2 (ts.map V.ref) (ds.map pairKD)
  | _, _, _, .nil, .nil, _ => .nil
  | _, _, _, .cons h t, .cons r rr, e => .cons (.tup (.inl (.inl (by rw [e _ List.mem_cons_self]; exact h))) (by show 2 ≤ sizeLine; rw [sizeLine_eq]; decide) (.cons (rep_key _) (.cons r .nil))) (reps_items t rr fun t ht => e t (List.mem_cons_of_mem _ ht))
def mListItems (ma : TM) : TM := fun δ Q E => ma δ (fun d => ∃ ds : List (Key × D), d = .dict ds ∧ Q (.list (ds.map pairKD))) E
section
variable {X : Cx} {W : WX} {pos p apos cpos : Pos} {ba : Bool} {e : Expr} {ma : TM}
theorem df_listItems (hc : X.calm = true) (he : DE X W e ba ma) (hg : Gl X "list") (hm : X.mg "list" = none) (hv : bootBuiltins "list" = some (.type "list")) (hbase : attributeBase e "items" X.env (eval e X.env) = eval e X.env := by rfl) (hline : (apos.endLine == cpos.line) = true := by rfl)
    (hs : starEach [.Call (.Attribute e "items" apos) [] [] cpos] X.env = (false, eval (.Call (.Attribute e "items" apos) [] [] cpos) X.env) :: starEach [] X.env := by rfl) :
    DF X W (.Call (.Name "list" p) [.Call (.Attribute e "items" apos) [] [] cpos] [] pos) (mListItems ma) :=
  PE.imp (pe_itemsY hc he hg hm hv hbase hline hs) fun σ H Q ⟨F, own, δ, P, EK, A, m, q⟩ => ⟨F, own, δ, _, EK, A, m, fun d v H1 ⟨ds, ed, m1⟩ s1 r1 => by
    subst ed
    obtain ⟨a, kvs, rfl, h1, h2, h3⟩ := r1.dict
    refine ⟨a, kvs, rfl, h1, fun H' p ts k1 k2 k3 k4 k5 k6 => ?_⟩
    have s2 : Same H1 H' := Same.of k1
    have trk := (A.env.grow s1).trk
    have out : ∀ t, t ∈ ts → t ∉ p :: (F.ls0 ++ own) := fun t ht z => by
      rcases List.mem_cons.mp z with e | z
      · exact k4 (e ▸ ht)
      · obtain ⟨o, w, nn⟩ := trk t z
        rw [k3 t ht] at w
        cases w
    refine q _ p H' m1 (s1.free k2) (s1.trans s2) (.l k5 ?_ (reps_items k6 (h3.mono (sub_fresh k2 s2)) fun t ht => sub_out (out t ht)))
    rw [List.length_map, k6.length]
    exact h2⟩
end
end DL

set_option Elab.async false
set_option linter.all false
set_option maxRecDepth 100000
set_option maxHeartbeats 4000000
/-! DL31: == of dicts whose values are ints. -/
namespace DL
open PySem PySem.Spec PyProof.Rows L2
variable [TabsC]
def intsV (ks : List (Key × V)) : Prop := ∀ p, p ∈ ks → ∃ i : Int, p.2 = .int i
def intsK (ds : List (Key × D)) : Prop := ∀ p, p ∈ ds → ∃ i : Int, p.2 = .int i
def eqKV (ls : List (Key × V)) (ks : List (Key × V)) : Bool := ks.all fun p => match valV ls p.1 with
  | some w => eqV p.2 w
  | none => false
def sameD : D → D → Bool
  | .int i, .int j => i == j
  | _, _ => false
def eqK (ds es : List (Key × D)) : Bool := ds.length == es.length && ds.all fun p => match valD es p.1 with
  | some w => sameD p.2 w
  | none => false
theorem valV_mem {ls : List (Key × V)} {k : Key} {w : V} (h : valV ls k = some w) : ∃ p, p ∈ ls ∧ p.2 = w := by
  unfold valV at h
  obtain ⟨p, hp, e⟩ := Option.map_eq_some_iff.mp h
  exact ⟨p, List.mem_of_find?_eq_some hp, e⟩
theorem hits_any {A : Around} {s : Shared} {ls : List (Key × V)} {vb : List (Key × Value)} (rb : KV ls vb) (hl : intsV ls) {ks : List (Key × V)} {va : List (Key × Value)} (ra : KV ks va) (hk : intsV ks) : PySem.W.KeqHits A s vb va (eqKV ls ks) := by
  unfold KV at ra
  induction ra with
  | nil => exact .nil
  | @cons p q ps qs h t ih =>
    obtain ⟨h1, h2⟩ := h
    obtain ⟨k, v⟩ := q
    have h1' : p.1 = k := h1
    subst h1'
    obtain ⟨i, ei⟩ := hk p List.mem_cons_self
    have rr := rb.val p.1
    have tail := ih fun p' hm => hk p' (List.mem_cons_of_mem _ hm)
    unfold eqKV
    rw [List.all_cons]
    cases e : valV ls p.1 with
    | none =>
      rw [e] at rr
      exact .miss (RelO.none_of rr)
    | some w =>
      rw [e] at rr
      obtain ⟨y, hy, ry⟩ := rr.some_of
      obtain ⟨p', hp', ew⟩ := valV_mem e
      obtain ⟨j, ej⟩ := hl p' hp'
      exact .hit hy (eqAt_V h2 ry (by rw [ei]; rfl) (by rw [← ew, ej]; rfl)) tail
def rEqY (K : PySem.W.Frag) : R2 := fun x y H Q => (∃ a b ks ls, x = .ref a ∧ y = .ref b ∧ Rd H a (.dK ks) ∧ Rd H b (.dK ls) ∧ intsV ks ∧ intsV ls ∧ Q (.bl (ks.length == ls.length && eqKV ls ks)) H) ∨ rEqD K x y H Q
def rNeY (K : PySem.W.Frag) : R2 := fun x y H Q => (∃ a b ks ls, x = .ref a ∧ y = .ref b ∧ Rd H a (.dK ks) ∧ Rd H b (.dK ls) ∧ intsV ks ∧ intsV ls ∧ Q (.bl (!(ks.length == ls.length && eqKV ls ks))) H) ∨ rNeD K x y H Q
section
variable {X : Cx}
theorem op_eqY (hu : X.A.units + 65 < cLine) : OpR X (compareOp .Eq) (rEqY X.K) := by
  intro pins s σ H x y v u Q I rx ry h
  rcases h with ⟨a, b, ks, ls, rfl, rfl, ea, eb, ik, il, q⟩ | h
  · obtain rfl : v = Value.ref a := rx
    obtain rfl : u = Value.ref b := ry
    obtain ⟨_, ya, va, ra, da⟩ := dk_rd I.hok ea
    obtain ⟨_, yb, vb, rb, db⟩ := dk_rd I.hok eb
    exact PySem.W.keq_eq (knd := mixKind X.prog X.w) ya yb da db (by omega) (fun _ => hits_any rb il ra ik) (fin_bl I q (by rw [ra.length, rb.length]))
  · exact op_eqD (by omega) pins s σ H x y v u Q I rx ry h
theorem op_neY (hu : X.A.units + 65 < cLine) : OpR X (compareOp .NotEq) (rNeY X.K) := by
  intro pins s σ H x y v u Q I rx ry h
  rcases h with ⟨a, b, ks, ls, rfl, rfl, ea, eb, ik, il, q⟩ | h
  · obtain rfl : v = Value.ref a := rx
    obtain rfl : u = Value.ref b := ry
    obtain ⟨_, ya, va, ra, da⟩ := dk_rd I.hok ea
    obtain ⟨_, yb, vb, rb, db⟩ := dk_rd I.hok eb
    exact PySem.W.keq_ne (knd := mixKind X.prog X.w) ya yb da db (by omega) (fun _ => hits_any rb il ra ik) (fin_bl I q (by rw [ra.length, rb.length]))
  · exact op_neD (by omega) pins s σ H x y v u Q I rx ry h
end
theorem ints_rep {K : PySem.W.Frag} {H : Hp} : ∀ {ks : List (Key × V)} {ds : List (Key × D)}, RepKs K H ks ds → intsK ds → intsV ks
  | _, _, .nil, _ => fun p hp => by cases hp
  | _, _, .cons r rr, h => fun p hp => by
    rcases List.mem_cons.mp hp with rfl | hp
    · obtain ⟨i, e⟩ := h _ List.mem_cons_self
      have e : _ = D.int i := e
      subst e
      cases r
      exact ⟨i, rfl⟩
    · exact ints_rep rr (fun p hp => h p (List.mem_cons_of_mem _ hp)) p hp
theorem eqV_int (i j : Int) : eqV (.int i) (.int j) = (i == j) := rfl
theorem valD_mem {ds : List (Key × D)} {k : Key} {d : D} (h : valD ds k = some d) : (k, d) ∈ ds := by
  unfold valD at h
  obtain ⟨p, hp, e⟩ := Option.map_eq_some_iff.mp h
  have h1 := List.mem_of_find?_eq_some hp
  have h2 := List.find?_some hp
  have h2 := of_decide_eq_true h2
  subst h2 e
  exact h1
theorem eqK_rep {K : PySem.W.Frag} {H : Hp} {ls : List (Key × V)} {es : List (Key × D)} (rl : RepKs K H ls es) (he : intsK es) : ∀ {ks : List (Key × V)} {ds : List (Key × D)}, RepKs K H ks ds → intsK ds → eqKV ls ks = ds.all fun p => match valD es p.1 with
    | some w => sameD p.2 w
    | none => false
  | _, _, .nil, _ => rfl
  | (k, v) :: ks, _ :: ds, .cons r rr, h => by
    have ih := eqK_rep rl he rr fun p hp => h p (List.mem_cons_of_mem _ hp)
    obtain ⟨i, e⟩ := h _ List.mem_cons_self
    have e : _ = D.int i := e
    subst e
    cases r
    unfold eqKV at ih ⊢
    rw [List.all_cons, List.all_cons, ih]
    congr 1
    show (match valV ls k with | some w => eqV (.int i) w | none => false) = match valD es k with | some w => sameD (.int i) w | none => false
    cases ek : valD es k with
    | none =>
      rw [rl.none k ek]
    | some w =>
      obtain ⟨u, hu, ru⟩ := rl.val k ek
      rw [hu]
      obtain ⟨j, ej⟩ := he _ (valD_mem ek)
      have ej : w = D.int j := ej
      subst ej
      cases ru
      rfl
def fEqY (x y : D) (Q : Bool → Prop) : Prop := match x, y with
  | .dict ds, .dict es => intsK ds ∧ intsK es ∧ Q (eqK ds es)
  | x, y => fEq x y Q
def fNeY (x y : D) (Q : Bool → Prop) : Prop := match x, y with
  | .dict ds, .dict es => intsK ds ∧ intsK es ∧ Q (!eqK ds es)
  | x, y => fNe x y Q
theorem link_eqY {X : Cx} : LinkCmp X.K (rEqY X.K) fEqY := by
  intro fo ls H x y dx dy P Q rx ry h q
  unfold fEqY at h
  split at h
  · obtain ⟨h1, h2, h⟩ := h
    obtain ⟨a, ks, rfl, a1, a2, a3⟩ := rx.dict
    obtain ⟨b, js, rfl, b1, b2, b3⟩ := ry.dict
    refine .inl ⟨a, b, ks, js, rfl, rfl, a1, b1, ints_rep a3 h1, ints_rep b3 h2, ?_⟩
    rw [eqK_rep b3 h2 a3 h1, a3.len, b3.len]
    exact q _ h
  · exact .inr (link_eq (X := X) fo ls H x y dx dy P Q rx ry h q)
theorem link_neY {X : Cx} : LinkCmp X.K (rNeY X.K) fNeY := by
  intro fo ls H x y dx dy P Q rx ry h q
  unfold fNeY at h
  split at h
  · obtain ⟨h1, h2, h⟩ := h
    obtain ⟨a, ks, rfl, a1, a2, a3⟩ := rx.dict
    obtain ⟨b, js, rfl, b1, b2, b3⟩ := ry.dict
    refine .inl ⟨a, b, ks, js, rfl, rfl, a1, b1, ints_rep a3 h1, ints_rep b3 h2, ?_⟩
    rw [eqK_rep b3 h2 a3 h1, a3.len, b3.len]
    exact q _ h
  · exact .inr (link_ne (X := X) fo ls H x y dx dy P Q rx ry h q)
end DL

set_option Elab.async false
set_option linter.all false
set_option maxRecDepth 100000
set_option maxHeartbeats 4000000
/-! DL32: operators of own instances: ==, !=, in, len, str. -/
namespace DL
open PySem PySem.Spec PyProof.Rows L2
variable [TabsC]
section
variable {prog : Program} {w : World} {A : Around} {E : Value → Shared → Prop} {s : Shared} {K : PySem.W.Frag} {x C L f : Addr} {h₀ : Heap} {m : Str → Option Value} {ox : Obj} {od : Option Obj} {b tb : Value}
/-- a special method that the library gives, where it is bound -/
theorem ifBound_lib {M : Model} {args : List Value} {name : Str} {id : String} {Q : Option Value → Shared → Prop} (X : K.In s.heap) (I : PySem.W.InstAt s.heap x ox C od) (hs : PySem.W.findIn K (.ref C) name = some (some (.builtin id)))
    (hb : ∀ self, bindSpecial (.builtin id) self = pure (.builtin id, [self])) (h : wpAny M A (call (.builtin id) (.ref x :: args)) (fun v => Q (some v)) E s) : wpAny M A (callSpecialIfBound? (.ref x) name args) Q E s := by
  simp only [callSpecialIfBound?, bindSpecialIfBound?]
  refine wpAny_holding (wpAny_bind (wpAny_bind (wpAny_bind (I.type.here ((PySem.W.looks_findIn X hs).here ?_)))))
  refine wpAny_bind (wpAny_askSetting (wpAny_ite ?_))
  have last : wpAny M A (call (.builtin id) ([.ref x] ++ args) >>= fun v => pure (some v)) Q E s := wpAny_bind (wpAny_mono h (fun v s' h' => wpAny_pure h') fun _ _ h' => h')
  split
  · exact wpAny_bind ((PySem.W.Looks.of_pure (hb _)).here (wpAny_pure (by exact last)))
  · exact wpAny_tryCatch (wpAny_bind ((PySem.W.Looks.of_pure (hb _)).here (wpAny_pure (by exact last))))
theorem ne_body {Q : PySem.Fin → Shared → Prop} (hu : A.units < cLine) (X : K.In s.heap) (I : PySem.W.InstAt s.heap x ox C od) (hs : PySem.W.findIn K (.ref C) "__eq__" = some (some (.ref f))) (hf : PySem.W.isFn K (.ref f) = true)
    (h : wpAny (model prog w) A (call (.ref f) [.ref x, b]) (fun v s' => ∃ c, v = .bool c ∧ Q (.done (.ret (.bool (!c)))) s') E s) : wpAny (model prog w) A (Builtin.«object.__ne__» ⟨[.ref x, b], []⟩) Q E s := by
  unfold Builtin.«object.__ne__»
  refine wpAny_bind (m := slotArgs "__ne__" 1 _) (wpAny_pure ?_)
  refine wpAny_bind (m := cRoomFor _ _) (wpAny_cRoomFor hu ?_)
  refine wpAny_bind (m := callSpecialIfBound? (.ref x) (Str.ofString "__eq__") _) (PySem.W.ifBound_K X I hs hf (wpAny_mono h (fun r s' hr => ?_) fun _ _ e => e))
  obtain ⟨c, rfl, hq⟩ := hr
  exact wpAny_bind (wpAny_truthy_bool (wpAny_pure hq))
theorem own_ne {Q : Value → Shared → Prop} (hu : A.units < cLine) (hu1 : A.in1.units < cLine) (X : K.In s.heap) (I : PySem.W.InstAt s.heap x ox C od) (hb : PySem.W.Looks (model prog w) s.heap (typeOf b) tb) (hn : PySem.W.notFirst K C tb = true)
    (hne : PySem.W.findIn K (.ref C) "__ne__" = some (some (.builtin "object.__ne__"))) (hm : PySem.W.mroIn K C (.type "object") = some true) (hs : PySem.W.findIn K (.ref C) "__eq__" = some (some (.ref f))) (hf : PySem.W.isFn K (.ref f) = true)
    (h : wpAny (model prog w) A.in1 (call (.ref f) [.ref x, b]) (fun v s' => ∃ c, v = .bool c ∧ Q (.bool (!c)) s') E s) : wpAny (model prog w) A (richCompare .NotEq (.ref x) b) Q E s := by
  have one : wpAny (model prog w) A (tryCompare (.ref x) "__ne__" b) (fun r s' => ∃ v, r = some v ∧ Q v s') E s := by
    unfold tryCompare
    refine wpAny_bind (ifBound_lib X I hne PySem.F.slot_tuple_iterator_ne.bind (wpAny_call (codeAny_call_builtin PySem.F.slot_tuple_iterator_ne.plain PySem.F.cmpEntry_ne
      (PySem.W.check_slot (i := "object.__ne__") (owner := "object") (n := "__ne__") PySem.F.cmpKind_ne PySem.F.cmpSplit_ne (I.type.andThen (PySem.W.looks_mroIn X hm)) (PySem.F.cmpArgs_ne _ _)
        (ne_body (A := A.in1) hu1 X I hs hf (wpAny_mono h (fun v s' hv => ?_) fun _ _ e => e))))))
    obtain ⟨c, rfl, hq⟩ := hv
    exact ⟨c, rfl, wpAny_pure ⟨_, rfl, hq⟩⟩
  unfold richCompare
  simp only [oneThing_ref]
  refine wpAny_holding (wpAny_bind (wpAny_cRoomFor hu ?_))
  refine wpAny_bind (I.type.here (wpAny_bind (hb.here ?_)))
  have out : wpAny (model prog w) A (tryCompare (.ref x) "__ne__" b) (fun r s' => ∃ v, r = some v ∧ Q v s') E s := one
  split
  · rename_i q
    have e : PySem.W.subIn K tb (.ref C) = some false := by
      rcases Bool.or_eq_true_iff.mp hn with e | e
      · rw [beq_iff_eq.mp e] at q; simp at q
      · exact beq_iff_eq.mp e
    refine wpAny_bind ((PySem.W.looks_subIn X e).here ?_)
    rw [if_neg Bool.false_ne_true]
    refine wpAny_bind (wpAny_mono out (fun r s' z => ?_) fun _ _ e => e)
    obtain ⟨v, rfl, hq⟩ := z
    exact wpAny_pure hq
  · refine wpAny_bind (wpAny_pure ?_)
    rw [if_neg Bool.false_ne_true]
    refine wpAny_bind (wpAny_mono out (fun r s' z => ?_) fun _ _ e => e)
    obtain ⟨v, rfl, hq⟩ := z
    exact wpAny_pure hq
end
/-! ### what a call of an own method gives, from data -/
section
variable {X : Cx} {pins : List (Addr × Obj)} {σ : L2.St} {H : Hp} {s : Shared} {k : Nat} {g : Addr} {m : FM} {vs : List V} {us : List Value} {E : Value → Shared → Prop}
theorem run_own {A : Around} {Q : Value → Shared → Prop} (F : FnD X.prog X.w X.K X.mg X.base k g m) (hG : GdOk A X.base) (hr : Room k A) (e0 : Env0 X.prog X.w X.K X.mg X.base A X.stack s H) (I : Inv X pins σ H s) (r : Vals vs us)
    {R : V → Hp → Prop} (sp : spD X.K m vs H (fun v H' => R v H') (fun _ _ _ => False)) (q : ∀ v u H' s', Inv X pins σ H' s' → RelV v u → R v H' → Q u s') : wpAny (model X.prog X.w) A (call (.ref g) us) Q E s := by
  refine wpAny_call (codeAny_mono (F A X.stack s H us vs _ _ hG hr e0 r sp) fun r s2 hq => ?_)
  cases r with
  | error er => exact (CR_none (fun _ _ _ z => z) hq).elim
  | ok fl =>
    cases fl with
    | ret u =>
      obtain ⟨v, H', I3, rv, q3⟩ := I.after hq
      exact q v u H' s2 I3 rv q3
    | next => exact False.elim hq
    | brk => exact False.elim hq
    | cont => exact False.elim hq
/-- a value's kind, and that it does not come first -/
def TyN (K : PySem.W.Frag) (C : Addr) (H : Hp) (y : V) : Prop := ∃ t, TyX K H y t ∧ PySem.W.notFirst K C t = true
/-- what the written part says of a class with its own == -/
structure EqO (K : PySem.W.Frag) (C g : Addr) : Prop where
  fn : PySem.W.isFn K (.ref g) = true
  eq : PySem.W.findIn K (.ref C) "__eq__" = some (some (.ref g))
  ne : PySem.W.findIn K (.ref C) "__ne__" = some (some (.builtin "object.__ne__"))
  mo : PySem.W.mroIn K C (.type "object") = some true
def rEqO (K : PySem.W.Frag) (C : Addr) (m : FM) (neg : Bool) : R2 := fun x y H Q => ∃ a dx vs, x = .ref a ∧ H a = some (.ins C dx vs) ∧ TyN K C H y ∧ spD K m [x, y] H (fun v H' => ∃ c, v = .bl c ∧ Q (.bl (neg ^^ c)) H') (fun _ _ _ => False)
theorem op_eqO {C : Addr} (T : EqO X.K C g) (F : FnD X.prog X.w X.K X.mg X.base k g m) (hG : GdOk X.A X.base) (hr : Room (k + 1) X.A) : OpR X (compareOp .Eq) (rEqO X.K C m false) := by
  intro pins s σ H x y v u Q I rx ry ⟨a, dx, fs, ex, ha, ⟨t, ty, hn⟩, sp⟩
  subst ex
  obtain rfl : v = Value.ref a := rx
  obtain ⟨mA, O, _, _, _, _⟩ := ins_get I.hok ha
  obtain ⟨od, J, _⟩ := O.look
  obtain ⟨P, Z, hP, _⟩ := kit_of I ry ty
  obtain ⟨mm, hF⟩ := I.fr
  refine PySem.W.cmp_K (op := .Eq) (tb := t) hr.units0 hF I.ok.mod.kin J (Z.ty _ _ I.kIn hP) hn T.eq T.fn ?_
  refine run_own F hG (hr.mono (Nat.le_succ k)) I.env0 I (vs := [V.ref a, y]) (.cons rfl (.cons ry .nil)) sp fun v u H' s' I' rv ⟨c, ev, q⟩ => ?_
  subst ev
  cases rv
  exact ⟨.bl c, H', I', rfl, by simpa using q⟩
theorem op_neO {C : Addr} (T : EqO X.K C g) (F : FnD X.prog X.w X.K X.mg X.base k g m) (hG : GdOk X.A X.base) (hr : Room (k + 1) X.A) : OpR X (compareOp .NotEq) (rEqO X.K C m true) := by
  intro pins s σ H x y v u Q I rx ry ⟨a, dx, fs, ex, ha, ⟨t, ty, hn⟩, sp⟩
  subst ex
  obtain rfl : v = Value.ref a := rx
  obtain ⟨mA, O, _, _, _, _⟩ := ins_get I.hok ha
  obtain ⟨od, J, _⟩ := O.look
  obtain ⟨P, Z, hP, _⟩ := kit_of I ry ty
  refine own_ne hr.units0 hr.in1.units0 I.kIn J (Z.ty _ _ I.kIn hP) hn T.ne T.mo T.eq T.fn ?_
  refine run_own F hG hr.in1 I.env0.in1 I (vs := [V.ref a, y]) (.cons rfl (.cons ry .nil)) sp fun v u H' s' I' rv ⟨c, ev, q⟩ => ?_
  subst ev
  cases rv
  exact ⟨c, rfl, .bl (!c), H', I', rfl, by simpa using q⟩
end
/-! ### o == e, o != e -/
def okB (others : List Str) (b : D) : Prop := b.tyn.isSome = true ∨ ∃ m fs, b = .obj m fs ∧ m ∈ others
def firstAll (K : PySem.W.Frag) (C : Addr) : Bool := ownTys.all fun t => PySem.W.notFirst K C (.type t)
def FirstOwn (K : PySem.W.Frag) (others : List Str) : Prop := ∀ (m n : Str) (Cm Cn : Addr), m ∈ others → n ∈ others → PySem.W.nsIn K mainGlobals m = some (some (.ref Cm)) → PySem.W.nsIn K mainGlobals n = some (some (.ref Cn)) → PySem.W.notFirst K Cn (.ref Cm) = true
theorem FirstOwn.of {K : PySem.W.Frag} {others : List Str} (tbl : List (Str × Addr)) (h1 : others = tbl.map (·.1)) (hns : ∀ p ∈ tbl, PySem.W.nsIn K mainGlobals p.1 = some (some (.ref p.2)))
    (h2 : (tbl.all fun p => tbl.all fun q => PySem.W.notFirst K q.2 (.ref p.2)) = true) : FirstOwn K others := by
  intro m n Cm Cn hm hn em en
  rw [h1] at hm hn
  obtain ⟨p, hp, rfl⟩ := List.mem_map.mp hm
  obtain ⟨q, hq, rfl⟩ := List.mem_map.mp hn
  have ep := hns p hp
  have eq := hns q hq
  rw [ep] at em
  rw [eq] at en
  cases em
  cases en
  exact List.all_eq_true.mp (List.all_eq_true.mp h2 p hp) q hq
section
variable {X : Cx} {W : WX} {a b e : Expr} {ba bb : Bool} {ma mb : TM} {n : Str} {C g : Addr} {k : Nat} {m : FM} {pos p : Pos} {others : List Str} {FF : Fm} {own : List Addr}
theorem tyN_of {H : Hp} {y : V} {d : D} (hC : PySem.W.nsIn X.K mainGlobals n = some (some (.ref C))) (hf : firstAll X.K C = true) (ho : FirstOwn X.K others) (ik : KitOwn X.K others) (hi : n ∈ others) (r : RV X.K FF.ls0 (FF.ls0 ++ own) H false y d) (ok : okB others d) : TyN X.K C H y := by
  rcases ok with hd | ⟨m', fs, rfl, hm'⟩
  · obtain ⟨t, ht⟩ := Option.isSome_iff_exists.mp hd
    exact ⟨.type t, tyx_rv r ht, List.all_eq_true.mp hf t (tyn_mem ht)⟩
  · obtain ⟨C', a, dx, vs, hC', rfl, h1, h2⟩ := r.obj
    have T := ik.ins m' C' hm' hC'
    exact ⟨.ref C', .base (.ins h1 T.cl T.fc T.sg T.tk T.mo), ho m' n C' C hm' hi hC' hC⟩
def mEqO (n : Str) (others : List Str) (neg : Bool) (m : FM) (ma mb : TM) : TM := fun δ Q E => ma δ (fun a => mb δ (fun b => ∃ fs : List (Str × D), a = .obj n fs ∧ okB others b ∧ m [a, b] (fun r => ∃ c, r = .bool c ∧ Q (.bool (neg ^^ c))) NoE) E) E
theorem eqO_reading {neg : Bool} {σ : L2.St} {H : Hp} {Q : VK} (hC : PySem.W.nsIn X.K mainGlobals n = some (some (.ref C))) (hf : firstAll X.K C = true) (ho : FirstOwn X.K others) (ik : KitOwn X.K others) (hi : n ∈ others)
    (h : tm X.K W false (mEqO n others neg m ma mb) σ H Q) : tOp (rEqO X.K C m neg) (tm X.K W false ma) (tm X.K W false mb) σ H Q := by
  obtain ⟨F, own, δ, P, EK, A, mm, q⟩ := h
  refine ⟨F, own, δ, _, EK, A, mm, fun d x H1 m1 s1 r1 => ⟨F, own, δ, _, EK, A.on s1, m1, fun d2 y H2 ⟨fs, ed, ok, m2⟩ s2 r2 => ?_⟩⟩
  subst ed
  have A2 := (A.on s1).on s2
  have r1' := r1.clean.mono (sub_same s2.ob)
  obtain ⟨C', a, dx, vs, hC', rfl, h1, h2⟩ := (RV.cl r1' : RV X.K F.ls0 (F.ls0 ++ own) H2 false x _).obj
  rw [hC] at hC'
  cases hC'
  exact ⟨a, dx, vs, rfl, h1, tyN_of hC hf ho ik hi r2 ok, F.ls0 ++ own, [.obj n fs, d2], _, NoE, A2.env.trk, A2.tabs, .cons r1' (.cons r2.clean .nil), m2, fun d v H' ⟨c, ed, pd⟩ s3 r3 => by
    subst ed
    cases r3
    exact ⟨c, rfl, q _ _ H' pd ((s1.trans s2).trans s3) (.cl (.bool _))⟩, fun _ _ _ _ z => z.elim⟩
theorem de_eqO (hC : PySem.W.nsIn X.K mainGlobals n = some (some (.ref C))) (T : EqO X.K C g) (hf : firstAll X.K C = true) (ho : FirstOwn X.K others) (ik : KitOwn X.K others) (hi : n ∈ others) (F : FnD X.prog X.w X.K X.mg X.base k g m) (hG : GdOk X.A X.base) (hr : Room (k + 1) X.A)
    (hm : behindInMarks .Eq b = false) (ha : DE X W a false ma) (hb : DE X W b false mb) : DE X W (.Compare a [.Eq] [b] pos) false (mEqO n others false m ma mb) :=
  PE.imp (pe_cmpR (op_eqO T F hG hr) ha hb hm) fun _ _ _ h => eqO_reading hC hf ho ik hi h
theorem de_neO (hC : PySem.W.nsIn X.K mainGlobals n = some (some (.ref C))) (T : EqO X.K C g) (hf : firstAll X.K C = true) (ho : FirstOwn X.K others) (ik : KitOwn X.K others) (hi : n ∈ others) (F : FnD X.prog X.w X.K X.mg X.base k g m) (hG : GdOk X.A X.base) (hr : Room (k + 1) X.A)
    (hm : behindInMarks .NotEq b = false) (ha : DE X W a false ma) (hb : DE X W b false mb) : DE X W (.Compare a [.NotEq] [b] pos) false (mEqO n others true m ma mb) :=
  PE.imp (pe_cmpR (op_neO T F hG hr) ha hb hm) fun _ _ _ h => eqO_reading hC hf ho ik hi h
theorem dt_eqO (hC : PySem.W.nsIn X.K mainGlobals n = some (some (.ref C))) (T : EqO X.K C g) (hf : firstAll X.K C = true) (ho : FirstOwn X.K others) (ik : KitOwn X.K others) (hi : n ∈ others) (F : FnD X.prog X.w X.K X.mg X.base k g m) (hG : GdOk X.A X.base) (hr : Room (k + 1) X.A)
    (hm : behindInMarks .Eq b = false) (ha : DE X W a false ma) (hb : DE X W b false mb) : DT X W (.Compare a [.Eq] [b] pos) (mTest (mEqO n others false m ma mb)) :=
  PT.imp (pt_cmpR (op_eqO T F hG hr) ha hb hm) fun σ H Q ⟨F', own, δ, P, EK, A, mm, q⟩ => eqO_reading hC hf ho ik hi ⟨F', own, δ, _, EK, A, mm, fun d v H' ⟨c, ed, pd⟩ s r => by
    subst ed
    cases r with
    | cl r => cases r; exact ⟨c, rfl, q c H' pd s⟩⟩
theorem dt_neO (hC : PySem.W.nsIn X.K mainGlobals n = some (some (.ref C))) (T : EqO X.K C g) (hf : firstAll X.K C = true) (ho : FirstOwn X.K others) (ik : KitOwn X.K others) (hi : n ∈ others) (F : FnD X.prog X.w X.K X.mg X.base k g m) (hG : GdOk X.A X.base) (hr : Room (k + 1) X.A)
    (hm : behindInMarks .NotEq b = false) (ha : DE X W a false ma) (hb : DE X W b false mb) : DT X W (.Compare a [.NotEq] [b] pos) (mTest (mEqO n others true m ma mb)) :=
  PT.imp (pt_cmpR (op_neO T F hG hr) ha hb hm) fun σ H Q ⟨F', own, δ, P, EK, A, mm, q⟩ => eqO_reading hC hf ho ik hi ⟨F', own, δ, _, EK, A, mm, fun d v H' ⟨c, ed, pd⟩ s r => by
    subst ed
    cases r with
    | cl r => cases r; exact ⟨c, rfl, q c H' pd s⟩⟩
/-! ### e in o -/
structure InO (K : PySem.W.Frag) (C g : Addr) : Prop where
  fn : PySem.W.isFn K (.ref g) = true
  at_ : PySem.W.findIn K (.ref C) "__contains__" = some (some (.ref g))
end
section
variable {X : Cx} {W : WX} {a b e : Expr} {ba bb : Bool} {ma mb : TM} {n : Str} {C g : Addr} {k : Nat} {m : FM} {pos p : Pos}
def rInO (K : PySem.W.Frag) (C : Addr) (m : FM) (neg : Bool) : R2 := fun x y H Q => ∃ a dx vs, y = .ref a ∧ H a = some (.ins C dx vs) ∧ spD K m [y, x] H (fun v H' => ∃ c, v = .bl c ∧ Q (.bl (neg ^^ c)) H') (fun _ _ _ => False)
theorem op_inO (T : InO X.K C g) (F : FnD X.prog X.w X.K X.mg X.base k g m) (hG : GdOk X.A X.base) (hr : Room k X.A) : OpR X (compareOp .In) (rInO X.K C m false) := by
  intro pins s σ H x y v u Q I rx ry ⟨a, dx, fs, ey, ha, sp⟩
  subst ey
  obtain rfl : u = Value.ref a := ry
  obtain ⟨mA, O, _, _, _, _⟩ := ins_get I.hok ha
  obtain ⟨od, J, _⟩ := O.look
  obtain ⟨mm, hF⟩ := I.fr
  refine PySem.W.in_K hF I.ok.mod.kin J T.at_ T.fn (run_own F hG hr I.env0 I (vs := [V.ref a, x]) (.cons rfl (.cons rx .nil)) sp fun v u H' s' I' rv ⟨c, ev, q⟩ => ?_)
  subst ev
  cases rv
  exact wpAny_truthy_bool ⟨.bl c, H', I', rfl, by simpa using q⟩
theorem op_notInO (T : InO X.K C g) (F : FnD X.prog X.w X.K X.mg X.base k g m) (hG : GdOk X.A X.base) (hr : Room k X.A) : OpR X (compareOp .NotIn) (rInO X.K C m true) := by
  intro pins s σ H x y v u Q I rx ry ⟨a, dx, fs, ey, ha, sp⟩
  subst ey
  obtain rfl : u = Value.ref a := ry
  obtain ⟨mA, O, _, _, _, _⟩ := ins_get I.hok ha
  obtain ⟨od, J, _⟩ := O.look
  obtain ⟨mm, hF⟩ := I.fr
  refine PySem.W.notIn_K hF I.ok.mod.kin J T.at_ T.fn (run_own F hG hr I.env0 I (vs := [V.ref a, x]) (.cons rfl (.cons rx .nil)) sp fun v u H' s' I' rv ⟨c, ev, q⟩ => ?_)
  subst ev
  cases rv
  exact wpAny_truthy_bool ⟨.bl (!c), H', I', rfl, by simpa using q⟩
def mInO (n : Str) (neg : Bool) (m : FM) (ma mb : TM) : TM := fun δ Q E => ma δ (fun a => mb δ (fun b => ∃ fs : List (Str × D), b = .obj n fs ∧ m [b, a] (fun r => ∃ c, r = .bool c ∧ Q (.bool (neg ^^ c))) NoE) E) E
theorem inO_reading {neg : Bool} {σ : L2.St} {H : Hp} {Q : VK} (hC : PySem.W.nsIn X.K mainGlobals n = some (some (.ref C))) (h : tm X.K W false (mInO n neg m ma mb) σ H Q) : tOp (rInO X.K C m neg) (tm X.K W false ma) (tm X.K W false mb) σ H Q := by
  obtain ⟨F, own, δ, P, EK, A, mm, q⟩ := h
  refine ⟨F, own, δ, _, EK, A, mm, fun d x H1 m1 s1 r1 => ⟨F, own, δ, _, EK, A.on s1, m1, fun d2 y H2 ⟨fs, ed, m2⟩ s2 r2 => ?_⟩⟩
  subst ed
  have A2 := (A.on s1).on s2
  have r1' := r1.clean.mono (sub_same s2.ob)
  obtain ⟨C', a, dx, vs, hC', rfl, h1, h2⟩ := r2.obj
  rw [hC] at hC'
  cases hC'
  exact ⟨a, dx, vs, rfl, h1, F.ls0 ++ own, [.obj n fs, d], _, NoE, A2.env.trk, A2.tabs, .cons r2.clean (.cons r1' .nil), m2, fun d v H' ⟨c, ed, pd⟩ s3 r3 => by
    subst ed
    cases r3
    exact ⟨c, rfl, q _ _ H' pd ((s1.trans s2).trans s3) (.cl (.bool _))⟩, fun _ _ _ _ z => z.elim⟩
theorem de_inO (hC : PySem.W.nsIn X.K mainGlobals n = some (some (.ref C))) (T : InO X.K C g) (F : FnD X.prog X.w X.K X.mg X.base k g m) (hG : GdOk X.A X.base) (hr : Room k X.A) (hm : behindInMarks .In b = false) (ha : DE X W a false ma) (hb : DE X W b false mb) : DE X W (.Compare a [.In] [b] pos) false (mInO n false m ma mb) :=
  PE.imp (pe_cmpR (op_inO T F hG hr) ha hb hm) fun _ _ _ h => inO_reading hC h
theorem de_notInO (hC : PySem.W.nsIn X.K mainGlobals n = some (some (.ref C))) (T : InO X.K C g) (F : FnD X.prog X.w X.K X.mg X.base k g m) (hG : GdOk X.A X.base) (hr : Room k X.A) (hm : behindInMarks .NotIn b = false) (ha : DE X W a false ma) (hb : DE X W b false mb) : DE X W (.Compare a [.NotIn] [b] pos) false (mInO n true m ma mb) :=
  PE.imp (pe_cmpR (op_notInO T F hG hr) ha hb hm) fun _ _ _ h => inO_reading hC h
theorem dt_inO (hC : PySem.W.nsIn X.K mainGlobals n = some (some (.ref C))) (T : InO X.K C g) (F : FnD X.prog X.w X.K X.mg X.base k g m) (hG : GdOk X.A X.base) (hr : Room k X.A) (hm : behindInMarks .In b = false) (ha : DE X W a false ma) (hb : DE X W b false mb) : DT X W (.Compare a [.In] [b] pos) (mTest (mInO n false m ma mb)) :=
  PT.imp (pt_cmpR (op_inO T F hG hr) ha hb hm) fun σ H Q ⟨F', own, δ, P, EK, A, mm, q⟩ => inO_reading hC ⟨F', own, δ, _, EK, A, mm, fun d v H' ⟨c, ed, pd⟩ s r => by
    subst ed
    cases r with
    | cl r => cases r; exact ⟨c, rfl, q c H' pd s⟩⟩
theorem dt_notInO (hC : PySem.W.nsIn X.K mainGlobals n = some (some (.ref C))) (T : InO X.K C g) (F : FnD X.prog X.w X.K X.mg X.base k g m) (hG : GdOk X.A X.base) (hr : Room k X.A) (hm : behindInMarks .NotIn b = false) (ha : DE X W a false ma) (hb : DE X W b false mb) : DT X W (.Compare a [.NotIn] [b] pos) (mTest (mInO n true m ma mb)) :=
  PT.imp (pt_cmpR (op_notInO T F hG hr) ha hb hm) fun σ H Q ⟨F', own, δ, P, EK, A, mm, q⟩ => inO_reading hC ⟨F', own, δ, _, EK, A, mm, fun d v H' ⟨c, ed, pd⟩ s r => by
    subst ed
    cases r with
    | cl r => cases r; exact ⟨c, rfl, q c H' pd s⟩⟩
/-! ### len(o), str(o) -/
structure LenO (K : PySem.W.Frag) (C g : Addr) : Prop where
  fn : PySem.W.isFn K (.ref g) = true
  at_ : PySem.W.findIn K (.ref C) "__len__" = some (some (.ref g))
structure StrO (K : PySem.W.Frag) (C g : Addr) : Prop where
  fn : PySem.W.isFn K (.ref g) = true
  at_ : PySem.W.findIn K (.ref C) "__str__" = some (some (.ref g))
def rLenO (K : PySem.W.Frag) (C : Addr) (m : FM) : List V → Hp → VK → Prop := fun xs H Q => ∃ a dx vs, xs = [V.ref a] ∧ H a = some (.ins C dx vs) ∧ spD K m xs H (fun v H' => ∃ i : Int, v = .int i ∧ 0 ≤ i ∧ i < 2 ^ 62 ∧ Q v H') (fun _ _ _ => False)
def rStrO (K : PySem.W.Frag) (C : Addr) (m : FM) : List V → Hp → VK → Prop := fun xs H Q => ∃ a dx vs, xs = [V.ref a] ∧ H a = some (.ins C dx vs) ∧ spD K m xs H (fun v H' => ∃ z, v = .str z ∧ Q v H') (fun _ _ _ => False)
theorem call_lenO (T : LenO X.K C g) (F : FnD X.prog X.w X.K X.mg X.base k g m) (hG : GdOk X.A X.base) (hr : Room (k + 1) X.A) : CallR X (.builtin "len") (rLenO X.K C m) := by
  intro pins s σ H xs us Q I r ⟨a, dx, fs, ex, ha, sp⟩
  subst ex
  obtain ⟨u, rfl, rx⟩ := vals1 r
  obtain rfl : u = Value.ref a := rx
  obtain ⟨mA, O, _, _, _, _⟩ := ins_get I.hok ha
  obtain ⟨od, J, _⟩ := O.look
  obtain ⟨mm, hF⟩ := I.fr
  refine PySem.W.len_K hF I.ok.mod.kin J T.at_ T.fn (run_own F hG hr.in1 I.env0.in1 I (vs := [V.ref a]) (.cons rfl .nil) sp fun v u H' s' I' rv ⟨i, ev, i0, i1, q⟩ => ?_)
  subst ev
  obtain ⟨t, rfl⟩ := rv
  exact ⟨⟨i0, by omega⟩, .int i, H', I'.tok _, ⟨_, rfl⟩, q⟩
theorem call_strO (T : StrO X.K C g) (F : FnD X.prog X.w X.K X.mg X.base k g m) (hG : GdOk X.A X.base) (hr : Room (k + 2) X.A) : CallR X (.type "str") (rStrO X.K C m) := by
  intro pins s σ H xs us Q I r ⟨a, dx, fs, ex, ha, sp⟩
  subst ex
  obtain ⟨u, rfl, rx⟩ := vals1 r
  obtain rfl : u = Value.ref a := rx
  obtain ⟨mA, O, _, _, _, _⟩ := ins_get I.hok ha
  obtain ⟨od, J, _⟩ := O.look
  refine PySem.W.kso_call hr.in1.in1.units0 I.kIn J T.at_ T.fn (run_own F hG hr.in1.in1 I.env0.in1.in1 I (vs := [V.ref a]) (.cons rfl .nil) sp fun v u H' s' I' rv ⟨z, ev, q⟩ => ?_)
  subst ev
  obtain ⟨t, rfl⟩ := rv
  exact ⟨.str z, H', I', ⟨t, rfl⟩, q⟩
def mLenO (n : Str) (m : FM) (ma : TM) : TM := fun δ Q E => ma δ (fun a => ∃ fs : List (Str × D), a = .obj n fs ∧ m [a] (fun r => ∃ i : Int, r = .int i ∧ 0 ≤ i ∧ i < 2 ^ 62 ∧ Q r) NoE) E
def mStrO (n : Str) (m : FM) (ma : TM) : TM := fun δ Q E => ma δ (fun a => ∃ fs : List (Str × D), a = .obj n fs ∧ m [a] (fun r => ∃ z, r = .str z ∧ Q r) NoE) E
theorem de_lenO (hC : PySem.W.nsIn X.K mainGlobals n = some (some (.ref C))) (T : LenO X.K C g) (F : FnD X.prog X.w X.K X.mg X.base k g m) (hG : GdOk X.A X.base) (hr : Room (k + 1) X.A) (hg : Gl X "len") (hm : X.mg "len" = none) (ha : DE X W a false ma)
    (hs : starEach [a] X.env = (false, eval a X.env) :: starEach [] X.env := by rfl) (hpl : (backTo pos (starEach [] X.env)).any (·.1) = false := by rfl) : DE X W (.Call (.Name "len" p) [a] [] pos) false (mLenO n m ma) :=
  PE.imp (pe_callB (call_lenO T F hG hr) hg hm (by decide +kernel) (pa_cons ha pa_nil hs) (by decide) (by decide) hs hpl) fun σ H Q ⟨F', own, δ, P, EK, A, mm, q⟩ => ⟨F', own, δ, _, EK, A, mm, fun d v H1 ⟨fs, ed, m1⟩ s1 r1 => by
    subst ed
    have A1 := A.on s1
    obtain ⟨C', b, dx, vs, hC', rfl, h1, h2⟩ := r1.obj
    rw [hC] at hC'
    cases hC'
    exact ⟨b, dx, vs, rfl, h1, F'.ls0 ++ own, [.obj n fs], _, NoE, A1.env.trk, A1.tabs, .cons r1.clean .nil, m1, fun d v H' ⟨i, ed, i0, i1, pd⟩ s3 r3 => by
      subst ed
      cases r3
      exact ⟨i, rfl, i0, i1, q _ _ H' pd (s1.trans s3) (.cl (.int _))⟩, fun _ _ _ _ z => z.elim⟩⟩
theorem de_strO (hC : PySem.W.nsIn X.K mainGlobals n = some (some (.ref C))) (T : StrO X.K C g) (F : FnD X.prog X.w X.K X.mg X.base k g m) (hG : GdOk X.A X.base) (hr : Room (k + 2) X.A) (hg : Gl X "str") (hm : X.mg "str" = none) (ha : DE X W a false ma)
    (hs : starEach [a] X.env = (false, eval a X.env) :: starEach [] X.env := by rfl) (hpl : (backTo pos (starEach [] X.env)).any (·.1) = false := by rfl) : DE X W (.Call (.Name "str" p) [a] [] pos) false (mStrO n m ma) :=
  PE.imp (pe_callTy (call_strO T F hG hr) hg hm (by decide +kernel) (pa_cons ha pa_nil hs) (by decide) (by decide) hs hpl) fun σ H Q ⟨F', own, δ, P, EK, A, mm, q⟩ => ⟨F', own, δ, _, EK, A, mm, fun d v H1 ⟨fs, ed, m1⟩ s1 r1 => by
    subst ed
    have A1 := A.on s1
    obtain ⟨C', b, dx, vs, hC', rfl, h1, h2⟩ := r1.obj
    rw [hC] at hC'
    cases hC'
    exact ⟨b, dx, vs, rfl, h1, F'.ls0 ++ own, [.obj n fs], _, NoE, A1.env.trk, A1.tabs, .cons r1.clean .nil, m1, fun d v H' ⟨i, ed, pd⟩ s3 r3 => by
      subst ed
      cases r3
      exact ⟨i, rfl, q _ _ H' pd (s1.trans s3) (.cl (.str _))⟩, fun _ _ _ _ z => z.elim⟩⟩
end
end DL

set_option Elab.async false
set_option linter.all false
set_option maxRecDepth 100000
set_option maxHeartbeats 4000000
/-! DL33: o + e, o - e, o * e of own instances; o[e]. -/
namespace PySem.W
open Lean Elab Tactic Meta PySem PySem.Calls PyProof.Rows
section
variable {prog : Program} {w : World} {A : Around} {E : Value → Shared → Prop} {s : Shared} {K : Frag} {x C f : Addr} {ox : Obj} {od : Option Obj} {T : String}
/-- an own operator, the other side of a built-in kind -/
theorem dl_bin {op : Operator} {b : Value} {fo ro rc : Option Value} {Q : Value → Shared → Prop} (X : K.In s.heap) (I : InstAt s.heap x ox C od) (hb : Looks (model prog w) s.heap (typeOf b) (.type T)) (hc : selfFirst K C = true)
    (hs : findIn K (.ref C) (PySem.dunder op.info.2) = some (some (.ref f))) (hf : isFn K (.ref f) = true) (hr : findIn K (.ref C) (dunderR op.info.2) = some rc) (hp : rc = none ∨ ∃ g : Addr, rc = some (.ref g))
    (h1 : findIn K (.type T) (PySem.dunder op.info.2) = some fo) (h2 : findIn K (.type T) (dunderR op.info.2) = some ro) (hsub : subIn K (.type T) (.ref C) = some false)
    (h : wpAny (model prog w) A (call (.ref f) [.ref x, b]) (CmpBack Q) E s) : wpAny (model prog w) A (binaryOp op (.ref x) b) Q E s := by
  obtain ⟨cd, rest, hcd, hm⟩ := ksp_first hc
  rcases hi : op.info with ⟨sym, nm'⟩
  rw [hi] at hs hr h1 h2
  dsimp only at hs hr h1 h2
  have one := ksp_try X I hs hf h
  obtain ⟨hh, g, d, tt, os⟩ := s
  have L1 : Looks (model prog w) hh (typeOf (.ref x)) (.ref C) := I.type
  have L2 : Looks (model prog w) hh (typeOf b) (.type T) := hb
  have L3 : Looks (model prog w) hh (fillsNumberSlot (.ref C) nm') true := fills_K X hcd hm hs
  have L4 : Looks (model prog w) hh (fillsNumberSlot (.type T) nm') ((fo.isSome && !isSeqSlot fo) || (ro.isSome && !isSeqSlot ro)) := ksp_fillsT X h1 h2
  have L5 : Looks (model prog w) hh (isSubtype (.type T) (.ref C)) false := looks_subIn X hsub
  have L6 : Looks (model prog w) hh (numberSlotInPython (.ref C) nm') true := ksp_inPy X hs hr hp
  have L7 : Looks (model prog w) hh (numberSlotInPython (.type T) nm') false := Looks.of_pure rfl
  have L8 : Looks (model prog w) hh (typeLookup (.type T) (dunderR nm')) ro := looks_findIn X h2
  generalize ((fo.isSome && !isSeqSlot fo) || (ro.isSome && !isSeqSlot ro)) = right at L4
  have hne : (Value.ref C == Value.type T) = false := Bool.eq_false_iff.mpr fun q => by cases beq_iff_eq.mp q
  simp only [binaryOp, hi]
  refine wpAny_holding (wpAny_bind ?_)
  unfold binaryOp1
  refine wpAny_bind (L1.at (wpAny_bind (L2.at (wpAny_bind (L3.at ?_)))))
  simp only [hne, Bool.false_eq_true, if_false]
  cases right with
  | false =>
    ksp_lk
    refine wpAny_mono one (fun r s' hr' => ?_) fun _ _ e => e
    obtain ⟨v, rfl, hq⟩ := hr'
    ksp_lk
    exact hq
  | true =>
    ksp_lk
    refine wpAny_mono one (fun r s' hr' => ?_) fun _ _ e => e
    obtain ⟨v, rfl, hq⟩ := hr'
    ksp_lk
    exact hq
end
end PySem.W
namespace DL
open PySem PySem.Spec PyProof.Rows L2
variable [TabsC]
def binB (K : PySem.W.Frag) (C : Addr) (nm : String) : Bool := ownTys.all fun T => (PySem.W.findIn K (.type T) (PySem.dunder nm)).isSome && ((PySem.W.findIn K (.type T) (PySem.dunderR nm)).isSome && decide (PySem.W.subIn K (.type T) (.ref C) = some false))
/-- what the written part says of an own operator -/
structure BinO (K : PySem.W.Frag) (C g : Addr) (op : Operator) : Prop where
  fn : PySem.W.isFn K (.ref g) = true
  at_ : PySem.W.findIn K (.ref C) (PySem.dunder op.info.2) = some (some (.ref g))
  rt : PySem.W.findIn K (.ref C) (PySem.dunderR op.info.2) = some none
  sf : PySem.W.selfFirst K C = true
  all : binB K C op.info.2 = true
section
variable {X : Cx} {W : WX} {a b e : Expr} {ba bb : Bool} {ma mb : TM} {n : Str} {C g : Addr} {k : Nat} {m : FM} {pos p : Pos} {op : Operator}
def tOpS (r : L2.St → R2) (ta tb : TE) : TE := fun σ H Q => ta σ H fun x H1 => tb σ H1 fun y H2 => r σ x y H2 Q
theorem pe_opS {r : L2.St → R2} {ta tb : TE} (ho : ∀ (pins : List (Addr × Obj)) (s : Shared) (σ : L2.St) (H : Hp) (x y : V) (v u : Value) (Q : VK), Inv X pins σ H s → RelV x v → RelV y u → r σ x y H Q → wpAny (model X.prog X.w) X.A (binaryOp op v u) (EP X pins σ Q) X.xe s)
    (ha : PE X a ta) (hb : PE X b tb) : PE X (.BinOp a op b pos) (tOpS r ta tb) := by
  refine ⟨fun pins s σ H Q I h => ?_⟩
  exact wpAny_BinOp (binT ha hb I h fun v u s2 x y H2 I2 rx ry q => ho pins s2 σ H2 x y v u Q I2 rx ry q)
def rBinO (K : PySem.W.Frag) (W : WX) (C : Addr) (m : FM) : L2.St → R2 := fun σ x y H Q => ∃ a dx vs, x = .ref a ∧ H a = some (.ins C dx vs) ∧ ((∃ t, t ∈ ownTys ∧ TyX K H y (.type t)) ∨ TyX K H y (.ref C)) ∧ spD K m [x, y] H (fun v H' => Q v H') (fun cls dd H' => W cls dd σ H')
theorem back_of {X : Cx} {pins : List (Addr × Obj)} {σ : L2.St} {Q : VK} {u : Value} {s' : Shared} (h : EP X pins σ Q u s') : PySem.W.CmpBack (EP X pins σ Q) u s' := by
  obtain ⟨v, H', I', rv, q⟩ := h
  exact SlX.cmpback rv ⟨v, H', I', rv, q⟩
theorem op_binO (T : BinO X.K C g op) (F : FnD X.prog X.w X.K X.mg X.base k g m) (hG : GdOk X.A X.base) (hr : Room k X.A) (tk : Takes X W) :
    ∀ (pins : List (Addr × Obj)) (s : Shared) (σ : L2.St) (H : Hp) (x y : V) (v u : Value) (Q : VK), Inv X pins σ H s → RelV x v → RelV y u → rBinO X.K W C m σ x y H Q → wpAny (model X.prog X.w) X.A (binaryOp op v u) (EP X pins σ Q) X.xe s := by
  intro pins s σ H x y v u Q I rx ry ⟨a, dx, fs, ex, ha, ty, sp⟩
  subst ex
  obtain rfl : v = Value.ref a := rx
  obtain ⟨mA, O, _, _, _, _⟩ := ins_get I.hok ha
  obtain ⟨od, J, _⟩ := O.look
  obtain ⟨mm, hF⟩ := I.fr
  have run : wpAny (model X.prog X.w) X.A (call (.ref g) [.ref a, u]) (PySem.W.CmpBack (EP X pins σ Q)) X.xe s :=
    wpAny_mono (runP (us := [.ref a, u]) (vs := [V.ref a, y]) F hG hr tk (E := fun cls dd H' => W cls dd σ H') (fun _ _ _ h => h) I (.cons rfl (.cons ry .nil)) sp) (fun _ _ z => back_of z) fun _ _ z => z
  rcases ty with ⟨t, ht, ty⟩ | ty
  · obtain ⟨P, Z, hP, _⟩ := kit_of I ry ty
    have z := List.all_eq_true.mp T.all t ht
    rw [Bool.and_eq_true, Bool.and_eq_true, decide_eq_true_eq] at z
    obtain ⟨z1, z2, z3⟩ := z
    obtain ⟨fo, h1⟩ := Option.isSome_iff_exists.mp z1
    obtain ⟨ro, h2⟩ := Option.isSome_iff_exists.mp z2
    exact PySem.W.dl_bin I.kIn J (Z.ty _ _ I.kIn hP) T.sf T.at_ T.fn T.rt (.inl rfl) h1 h2 z3 run
  · obtain ⟨P, Z, hP, _⟩ := kit_of I ry ty
    exact PySem.W.binop_K hF I.ok.mod.kin J (Z.ty _ _ I.kIn hP) T.sf T.at_ T.fn run
def mBinO (n : Str) (m : FM) (ma mb : TM) : TM := fun δ Q E => ma δ (fun a => mb δ (fun b => ∃ fs : List (Str × D), a = .obj n fs ∧ (b.tyn.isSome = true ∨ ∃ gs : List (Str × D), b = .obj n gs) ∧ m [a, b] Q E) E) E
theorem de_binO (hC : PySem.W.nsIn X.K mainGlobals n = some (some (.ref C))) (ik : InsTy X.K C) (T : BinO X.K C g op) (F : FnD X.prog X.w X.K X.mg X.base k g m) (hG : GdOk X.A X.base) (hr : Room k X.A) (tk : Takes X W) (ha : DE X W a false ma) (hb : DE X W b false mb) : DE X W (.BinOp a op b pos) false (mBinO n m ma mb) :=
  PE.imp (pe_opS (op_binO T F hG hr tk) ha hb) fun σ H Q ⟨F', own, δ, P, EK, A, mm, q⟩ => by
    refine ⟨F', own, δ, _, EK, A, mm, fun d x H1 m1 s1 r1 => ⟨F', own, δ, _, EK, A.on s1, m1, fun d2 y H2 ⟨fs, ed, ok, m2⟩ s2 r2 => ?_⟩⟩
    subst ed
    have A2 := (A.on s1).on s2
    have r1' := r1.clean.mono (sub_same s2.ob)
    obtain ⟨C', a, dx, vs, hC', rfl, h1, h2⟩ := (RV.cl r1' : RV X.K F'.ls0 (F'.ls0 ++ own) H2 false x _).obj
    rw [hC] at hC'
    cases hC'
    refine ⟨a, dx, vs, rfl, h1, ?_, F'.ls0 ++ own, [.obj n fs, d2], P, EK, A2.env.trk, A2.tabs, .cons r1' (.cons r2.clean .nil), m2, fun d v H' pd s3 r3 => q _ _ H' pd ((s1.trans s2).trans s3) (.cl r3), fun er cls dd H' ke s3 r3 => A2.pass er cls dd H' ke s3 r3⟩
    rcases ok with hd | ⟨gs, rfl⟩
    · obtain ⟨t, ht⟩ := Option.isSome_iff_exists.mp hd
      exact .inl ⟨t, tyn_mem ht, tyx_rv r2 ht⟩
    · obtain ⟨C', b, dx2, vs2, hC', rfl, g1, g2⟩ := r2.obj
      rw [hC] at hC'
      cases hC'
      exact .inr (.base (.ins g1 ik.cl ik.fc ik.sg ik.tk ik.mo))
end
end DL

set_option Elab.async false
set_option linter.all false
set_option maxRecDepth 100000
set_option maxHeartbeats 4000000
/-! DL34: defs whose last parameter has a default. -/
namespace DL
open PySem PySem.Spec PyProof.Rows L2
variable [TabsC]
section
variable {P : Program} {w : World} {K : PySem.W.Frag} {mg : Str → Option Value} {base : Heap}
theorem fnP_dft {x qual : Str} {st : Stmt} {dvs : List V} {f : Addr} {fd : FuncData} {N ps : List Str} {k : Nat} {sp sb : Sp} (F : FunD K x qual (defArgs st) (defBody st) (defScope st) dvs [] f fd) (S : FnScope N ps (defScope st))
    (har : ∀ (s : Shared) (us : List Value) (vs : List V) (H : Hp) (Q : VK) (E : XK), K.In s.heap → Vals vs us → sp vs H Q E → ∃ vs' us', Vals vs' us' ∧ vs'.length = ps.length ∧ BindsTo s fd ⟨us, []⟩ (ps.zip us') ∧ sb vs' H Q E)
    (hbody : ∀ (cdv : Value) (A : Around) (outer : List Env) (s : Shared) (H : Hp) (vs : List V) (Q : VK) (E : XK), GdOk A base → Room k (A.deeper (envOfC qual (defScope st) s.heap.objs.size f cdv)) → sb vs H Q E →
      ∃ t, PSs (cxOf (L2.CX P w) P w K mg base N qual (defScope st) f cdv A outer s H E) (defBody st) t ∧ t { nx := fun _ H' => Q .non H', rt := Q } (L2.start N vs) H) : FnP P w K mg base (k + 1) f sp := by
  obtain ⟨oc, od, dV, kV, doc, pm, an, cdv, ct, osl, rfl, lk, hcd, _, _⟩ := F.ex
  intro A outer s H us0 vs0 Q E hG hr e0 r0 hsp0
  have KX : K.In s.heap := e0.mod.kin.keeps fun b o e => (e0.bs b o e).1
  obtain ⟨vs, us, r, hl, hb, hsp⟩ := har s us0 vs0 H Q E KX r0 hsp0
  have lim : s.heap.NoLimit := e0.mod.nolimit.keeps fun b o e => (e0.bs b o e).1
  refine codeAny_call_function hr.depth (KX _ _ lk) rfl S.co S.gen rfl (PySem.W.codeRec_of KX hcd) (hb _ _ _ _ ?_)
  refine wpAny_newFunctionEnv_cells S.kind (fun ⟨n, v⟩ hy => ?_) fun env he s1 x => ?_
  · rcases S.par n (List.of_mem_zip hy).1 with q | q
    · exact .inl q
    · exact .inr ⟨q, PySem.W.cellsFrom_some _ _ _ (.inl q)⟩
  subst he
  refine ⟨lim.keeps x.toInCall.keep, codeAny_func ?_⟩
  have I : Inv (cxOf (L2.CX P w) P w K mg base N qual (defScope st) f cdv A outer s H E) [] (L2.start N vs) H s1 := inv_start S hr.hd e0 hl r x
  obtain ⟨t, ht, hw⟩ := hbody cdv A outer s H vs Q E hG (hr.deeper _) hsp
  refine wpAny_mono (ht.run [] s1 _ H _ I hw) (fun fl s' hs => ?_) fun e s' hs => hs
  cases fl with
  | ret u =>
    obtain ⟨v, σ', H', J, rv, q⟩ := hs
    exact ⟨v, H', J.os, J.bare, J.base, J.hok, rv, q⟩
  | next =>
    obtain ⟨σ', H', J, q⟩ := hs
    exact ⟨V.non, H', J.os, J.bare, J.base, J.hok, rfl, q⟩
  | brk =>
    obtain ⟨_, _, _, q⟩ := hs
    exact q.elim
  | cont =>
    obtain ⟨_, _, _, q⟩ := hs
    exact q.elim
variable {x qual : Str} {st : Stmt} {f : Addr} {fd : FuncData} {N ps : List Str} {k : Nat} {m : SM}
theorem fnM_dft {dv : V} {dd : D} (F : FunD K x qual (defArgs st) (defBody st) (defScope st) [dv] [] f fd) (S : FnScope N ps (defScope st)) (hb0 : ∃ ds, Vals [dv] ds ∧ Binds K fd ps ds) (hb1 : ∃ ds, Vals [] ds ∧ Binds K fd ps ds) (hdd : ∀ H, Rep K H dv dd) (hN : N ≠ [])
    (hbody : ∀ (cdv : Value) (A : Around) (outer : List Env) (s : Shared) (H : Hp) (E : XK), GdOk A base → Room k (A.deeper (envOfC qual (defScope st) s.heap.objs.size f cdv)) →
      DSs (cxOf (L2.CX P w) P w K mg base N qual (defScope st) f cdv A outer s H E) (Wof E) (defBody st) m) : FnM P w K mg base (k + 1) f (mFunMD ps.length N.length [dd] m) := by
  refine fnP_dft F S (sb := spM K (mFunM ps.length N.length m)) (fun s us vs H Q E hK r h => ?_) fun cdv A outer s H vs Q E hG hr h => ?_
  · obtain ⟨fo, x, C, dx, n, ws, fs, dfs, ds, PQ, EK, ev, hx, ht, tb, hn, ha, rf, rs, ⟨h1, h2, hm⟩, q⟩ := id h
    subst ev
    have el : us.length = ds.length + 1 := by rw [← r.length, List.length_cons, rs.length]
    by_cases full : ds.length + 1 = ps.length
    · obtain ⟨us0, e0, b⟩ := hb1
      cases e0
      have e2 : ds.length + 1 + [dd].length - ps.length = 1 := by show ds.length + 1 + 1 - ps.length = 1; omega
      rw [e2] at hm
      have b := b s us hK (by rw [List.append_nil]; omega)
      rw [List.append_nil] at b
      refine ⟨.ref x :: ws, us, r, by rw [List.length_cons, rs.length]; exact full, b, fo, x, C, dx, n, ws, fs, dfs, ds, PQ, EK, rfl, hx, ht, tb, hn, ha, rf, rs, ⟨full, ?_⟩, q⟩
      simpa using hm
    · have lack : ds.length + 2 = ps.length := by
        have : [dd].length = 1 := rfl
        omega
      obtain ⟨us0, e0, b⟩ := hb0
      have e2 : ds.length + 1 + [dd].length - ps.length = 0 := by show ds.length + 1 + 1 - ps.length = 0; omega
      rw [e2] at hm
      have l0 : us0.length = 1 := by rw [← e0.length]; rfl
      have b := b s us hK (by rw [List.length_append]; omega)
      refine ⟨(.ref x :: ws) ++ [dv], us ++ us0, r.append e0, by rw [List.length_append, List.length_cons, rs.length]; exact lack, b, fo, x, C, dx, n, ws ++ [dv], fs, dfs, ds ++ [dd], PQ, EK, rfl, hx, ht, tb, hn, ha, rf, rs.append (.cons (hdd _) .nil), ⟨by rw [List.length_append]; exact lack, hm⟩, q⟩
  · obtain ⟨fo, x, C, dx, n, ws, fs, dfs, ds, PQ, EK, rfl, hx, ht, tb, hn, ha, rf, rs, ⟨hl, hm⟩, hq, he⟩ := h
    exact ⟨_, hbody cdv A outer s H E hG hr, ⟨fo, sub H [x], sub H fo⟩, [], _, _, env_startM hN hx ht tb hn ha rf rs, hm, links_endM ht hq he⟩
theorem fnD_dft {dv : V} {dd : D} (F : FunD K x qual (defArgs st) (defBody st) (defScope st) [dv] [] f fd) (S : FnScope N ps (defScope st)) (hb0 : ∃ ds, Vals [dv] ds ∧ Binds K fd ps ds) (hb1 : ∃ ds, Vals [] ds ∧ Binds K fd ps ds) (hdd : ∀ H, Rep K H dv dd)
    (hbody : ∀ (cdv : Value) (A : Around) (outer : List Env) (s : Shared) (H : Hp) (E : XK), GdOk A base → Room k (A.deeper (envOfC qual (defScope st) s.heap.objs.size f cdv)) →
      DSs (cxOf (L2.CX P w) P w K mg base N qual (defScope st) f cdv A outer s H E) (Wof E) (defBody st) m) : FnD P w K mg base (k + 1) f (mFunD ps.length N.length [dd] m) := by
  refine fnP_dft F S (sb := spD K (mFun ps.length N.length m)) (fun s us vs H Q E hK r h => ?_) fun cdv A outer s H vs Q E hG hr h => ?_
  · obtain ⟨fo, ds, PQ, EK, ht, tb, rs, ⟨h1, h2, hm⟩, q⟩ := id h
    have el : us.length = ds.length := by rw [← r.length, rs.length]
    by_cases full : ds.length = ps.length
    · obtain ⟨us0, e0, b⟩ := hb1
      cases e0
      have e2 : ds.length + [dd].length - ps.length = 1 := by show ds.length + 1 - ps.length = 1; omega
      rw [e2] at hm
      have b := b s us hK (by rw [List.append_nil]; omega)
      rw [List.append_nil] at b
      refine ⟨vs, us, r, by rw [rs.length]; exact full, b, fo, ds, PQ, EK, ht, tb, rs, ⟨full, ?_⟩, q⟩
      simpa using hm
    · have lack : ds.length + 1 = ps.length := by
        have : [dd].length = 1 := rfl
        omega
      obtain ⟨us0, e0, b⟩ := hb0
      have e2 : ds.length + [dd].length - ps.length = 0 := by show ds.length + 1 - ps.length = 0; omega
      rw [e2] at hm
      have l0 : us0.length = 1 := by rw [← e0.length]; rfl
      have b := b s us hK (by rw [List.length_append]; omega)
      exact ⟨vs ++ [dv], us ++ us0, r.append e0, by rw [List.length_append, rs.length]; exact lack, b, fo, ds ++ [dd], PQ, EK, ht, tb, rs.append (.cons (hdd _) .nil), ⟨by rw [List.length_append]; exact lack, hm⟩, q⟩
  · obtain ⟨fo, ds, PQ, EK, ht, tb, rs, ⟨hl, hm⟩, hq, he⟩ := h
    exact ⟨_, hbody cdv A outer s H E hG hr, ⟨fo, H, sub H fo⟩, [], _, _, env_start ht tb rs, hm, links_end (cx := cxOf (L2.CX P w) P w K mg base N qual (defScope st) f cdv A outer s H E) hq he⟩
end
end DL

set_option Elab.async false
set_option linter.all false
set_option maxRecDepth 100000
set_option maxHeartbeats 4000000
/-! DL35: list * int, x.append(y.pop(e)), sum(d.values()), readings of dict rules. -/
namespace DL
open PySem PySem.Spec PyProof.Rows L2
variable [TabsC]
/-! ### list * int -/
theorem Reps.flat {K : PySem.W.Frag} {H : Hp} {xs : List V} {ds : List D} (r : Reps K H xs ds) : ∀ n : Nat, Reps K H (List.replicate n xs).flatten (List.replicate n ds).flatten
  | 0 => .nil
  | n + 1 => by
    rw [List.replicate_succ, List.replicate_succ, List.flatten_cons, List.flatten_cons]
    exact r.append (Reps.flat r n)
theorem flat_len {α : Type} (xs : List α) : ∀ n : Nat, (List.replicate n xs).flatten.length = xs.length * n
  | 0 => by simp
  | n + 1 => by rw [List.replicate_succ, List.flatten_cons, List.length_append, flat_len xs n, Nat.mul_succ, Nat.add_comm]
section
variable {X : Cx} {W : WX} {a b c e : Expr} {ba bb : Bool} {ma mb : TM} {pos p apos cpos : Pos}
def mRep (ma mb : TM) : TM := fun δ Q E => ma δ (fun x => mb δ (fun y => ∃ ds k, x = .list ds ∧ y = .int k ∧ -(2 ^ 62) ≤ k ∧ k < 2 ^ 62 ∧ ds.length * k.toNat ≤ sizeLine ∧ Q (.list (List.replicate k.toNat ds).flatten)) E) E
theorem df_rep (ha : DE X W a ba ma) (hb : DE X W b bb mb) : DF X W (.BinOp a .Mult b pos) (mRep ma mb) :=
  PE.imp (pe_op op_rep ha hb) fun σ H Q ⟨F, own, δ, P, EK, A, mm, q⟩ => ⟨F, own, δ, _, EK, A, mm, fun d x H1 m1 s1 r1 => ⟨F, own, δ, _, EK, A.on s1, m1, fun d2 y H2 ⟨ds, k, ed, ek, k1, k2, hz, pd⟩ s2 r2 => by
    subst ed ek
    obtain ⟨l, xs, rfl, h1, h2, h3⟩ := (r1.mono s2.ob).list
    have ek := r2.isInt
    subst ek
    have el : xs.length * k.toNat ≤ sizeLine := by rw [h3.length]; exact hz
    refine ⟨l, k, xs, rfl, rfl, h1, by omega, by omega, el, fun p hp => q _ p _ pd ((s1.trans s2).free hp) ((s1.trans s2).trans (same_upd hp)) (.l upd_same (by rw [flat_len]; exact el) ((h3.flat _).mono (sub_fresh hp (same_upd hp))))⟩⟩⟩
/-! ### x.append(y.pop(e)) -/
theorem Reps.erase {K : PySem.W.Frag} {H : Hp} : ∀ {xs : List V} {ds : List D} (n : Nat), Reps K H xs ds → Reps K H (xs.eraseIdx n) (ds.eraseIdx n)
  | _, _, _, .nil => .nil
  | _, _, 0, .cons _ r => r
  | _, _, n + 1, .cons h r => .cons h (Reps.erase n r)
def sAppPop (i j : Nat) (ma : TM) : SM := fun δ k => ∃ ds, δ[i]? = some (.m (.list ds)) ∧ ∃ es, δ[j]? = some (.m (.list es)) ∧ ma δ (fun d => ∃ (n : Nat) (x : D), d = .int n ∧ es[n]? = some x ∧ ds.length < sizeLine ∧ k.nx ((δ.set j (.m (.list (es.eraseIdx n)))).set i (.m (.list (ds ++ [x]))))) (k.er δ)
theorem ds_appPop (i j : Nat) {x y : Str} {p2 apos2 cpos2 : Pos} (hij : i ≠ j) (ho : PE X (.Name x p) (tVar i)) (hy : PE X (.Name y p2) (tVar j)) (he : DE X W e false ma)
    (hb2 : attributeBase (.Name y p2) "pop" X.env (eval (.Name y p2) X.env) = eval (.Name y p2) X.env := by rfl)
    (hf2 : ((backTo cpos2 (starEach [e] X.env)).all (fun x => !x.1) && (backToKw cpos2 (keywordEach [] X.env)).all (fun x => x.1.isSome) && decide (([e] : List Expr).length + ([] : List Keyword).length + (if ([] : List Keyword).isEmpty then 0 else 1) < 30)) = true := by rfl)
    (hl2 : (apos2.endLine == cpos2.line) = true := by rfl) (hs2 : starEach [e] X.env = (false, eval e X.env) :: starEach [] X.env := by rfl) (hp2 : (backTo cpos2 (starEach [] X.env)).any (·.1) = false := by rfl)
    (hbase : attributeBase (.Name x p) "append" X.env (eval (.Name x p) X.env) = eval (.Name x p) X.env := by rfl)
    (hfew : ((backTo cpos (starEach [.Call (.Attribute (.Name y p2) "pop" apos2) [e] [] cpos2] X.env)).all (fun x => !x.1) && (backToKw cpos (keywordEach [] X.env)).all (fun x => x.1.isSome) && decide (([.Call (.Attribute (.Name y p2) "pop" apos2) [e] [] cpos2] : List Expr).length + ([] : List Keyword).length + (if ([] : List Keyword).isEmpty then 0 else 1) < 30)) = true := by rfl)
    (hline : (apos.endLine == cpos.line) = true := by rfl) (hs : starEach [.Call (.Attribute (.Name y p2) "pop" apos2) [e] [] cpos2] X.env = (false, eval (.Call (.Attribute (.Name y p2) "pop" apos2) [e] [] cpos2) X.env) :: starEach [] X.env := by rfl)
    (hplain : (backTo cpos (starEach [] X.env)).any (·.1) = false := by rfl) (hsw : swapsWith (.Call (.Attribute (.Name x p) "append" apos) [.Call (.Attribute (.Name y p2) "pop" apos2) [e] [] cpos2] [] cpos) none pos.line X.env = pure false := by rfl) :
    DS X W (.Expr (.Call (.Attribute (.Name x p) "append" apos) [.Call (.Attribute (.Name y p2) "pop" apos2) [e] [] cpos2] [] cpos) pos) (sAppPop i j ma) :=
  PS.imp (ps_expr (pe_bm PySem.F.plainAttrs_list PySem.F.slot_list_append PySem.F.type_list_append mt_append ho
    (pa_cons (pe_bm PySem.F.plainAttrs_list PySem.F.slot_list_pop PySem.F.type_list_pop mt_popAt hy (pa_cons he pa_nil hs2) hb2 hf2 hl2 hs2 hp2) pa_nil hs) hbase hfew hline hs hplain) hsw) fun D σ H ⟨F, own, δ, k, E, h, L⟩ => by
    obtain ⟨ds, hd, es, hd2, h⟩ := h
    obtain ⟨a, xs, e1, ha, h1, h2, h3⟩ := mut_list E hd
    obtain ⟨b, ys, e2, hb, g1, g2, g3⟩ := mut_list E hd2
    have nab : b ≠ a := fun z => hij (E.apart i j _ _ a hd hd2 e1 (by rw [← z]; exact e2))
    refine ⟨_, e1, .inl ⟨rfl, _, .of h1⟩, _, e2, .inl ⟨rfl, _, .of g1⟩, F, own, δ, _, _, L.at E, h, fun d v H' p s r => ?_⟩
    obtain ⟨n, x, ed, hx, hl, p⟩ := p
    subst ed
    have ev := r.isInt
    subst ev
    have h1' := s _ _ h1
    have g1' := s _ _ g1
    have hlen : n < es.length := by
      refine Nat.lt_of_not_le fun z => ?_
      rw [List.getElem?_eq_none z] at hx
      cases hx
    have g3' := g3.mono (sub_same s.ob)
    obtain ⟨u, hu, ru⟩ := g3'.get' hx
    have hyl : n < ys.length := by rw [g3.length]; exact hlen
    have hy2 : ys.length ≤ 16777216 := by rw [sizeLine_eq] at g2; exact g2
    have ix : seqIndex? (n : Int) ys.length = some n := by
      unfold seqIndex?
      simp
      omega
    have E1 := E.grow s
    have esb : sub (upd H' b (.lst (ys.eraseIdx n))) (F.ls0 ++ own) = sub H' (F.ls0 ++ own) := sub_upd (List.mem_append_right _ hb)
    have E2 := E1.put hd2 e2 g1' (o := .lst (ys.eraseIdx n)) (d' := .list (es.eraseIdx n)) (.ml (E.sep b hb) upd_same (by rw [List.length_eraseIdx]; split <;> omega) (by rw [esb]; exact g3'.erase n))
    have hdi : (δ.set j (.m (.list (es.eraseIdx n))))[i]? = some (.m (.list ds)) := by rw [List.getElem?_set_ne (Ne.symm hij)]; exact hd
    have hxa : upd H' b (.lst (ys.eraseIdx n)) a = some (.lst xs) := by rw [upd_ne (Ne.symm nab)]; exact h1'
    have esa : sub (upd (upd H' b (.lst (ys.eraseIdx n))) a (.lst (xs ++ [u]))) (F.ls0 ++ own) = sub H' (F.ls0 ++ own) := by rw [sub_upd (List.mem_append_right _ ha), esb]
    have hl' : xs.length < sizeLine := by rw [h3.length]; exact hl
    refine ⟨b, ys, n, n, u, rfl, rfl, g1', by omega, by omega, ix, hu, a, xs, u, rfl, rfl, hxa, hl', L.nx _ _ own _ (E2.put hdi e1 hxa (.ml (E.sep a ha) upd_same ?_ ?_)) p⟩
    · rw [List.length_append, List.length_singleton]; omega
    · rw [esa]
      exact (h3.mono (sub_same s.ob)).append (.cons ru .nil)
end
end DL
namespace DL
open PySem PySem.Spec PyProof.Rows L2
variable [TabsC]
/-! ### sum(d.values()) -/
section
variable {prog : Program} {w : World} {A : Around} {E : Value → Shared → Prop} {s : Shared} {r d : Addr} {n : Nat} {P : Nat → Value → Prop} {OK : Heap → Prop} {T : String}
theorem sum_src {Q : Value → Shared → Prop} (S : PySem.W.KdlSrc prog w T r d n P OK) (hh : A.handled = none) (hok : OK s.heap) (val : Nat → Int) (hval : ∀ (i : Nat) (v : Value), P i v → ∃ t : Tok, v = Value.int (val i) t)
    (h : ∀ (h' : Heap) (tk : Nat) (t' : Tok), (∀ b o, s.heap.get? b = some o → h'.get? b = some o) → Q (.int (preSum val n) t') { s with heap := h', toks := tk }) : wpAny (model prog w) A (call (.builtin "sum") [.ref r]) Q E s := by
  refine call_sum_walkAnyS ?_
  obtain ⟨oI, St, hit, Z, st⟩ := S.iter A.in1 s hh hok
  refine hit _ _ ⟨s.heap.objs.size, _, _, _, n, P, _, val, rfl, Z.toS, st, fun b hb => ?_, hval, fun s' t' hm => ?_⟩
  · show b < (s.heap.push oI).objs.size
    rw [PyProof.Rows.size_push']
    rcases List.mem_cons.mp hb with e | hb
    · rw [e]; exact Nat.lt_succ_self _
    · rw [List.mem_singleton.mp hb]; exact Nat.lt_succ_of_lt (S.there _ hok).2
  · have hk : ∀ b o, s.heap.get? b = some o → s'.heap.get? b = some o := fun b o e =>
      hm.heap b o (fun hI => absurd (Heap.lt_size e) (by rw [List.mem_singleton.mp hI]; exact Nat.lt_irrefl _)) (Heap.get?_push_of_some _ e)
    rw [Moved.eq_with hm]
    exact h s'.heap s'.toks t' hk
end
theorem pre_sum (ns : List Int) : preSum (fun i => ns.getD i 0) ns.length = ns.sum := by
  have go : ∀ (xs : List Int) (f : Nat → Int), (∀ i, i < xs.length → f i = xs.getD i 0) → preSum f xs.length = xs.sum := by
    refine snoc_ind (fun f _ => rfl) fun xs x ih => ?_
    · intro f hf
      rw [List.length_append, List.length_singleton, List.sum_append]
      show preSum f xs.length + f xs.length = _
      rw [ih f fun i hi => by rw [hf i (by rw [List.length_append]; omega), List.getD_eq_getElem?_getD, List.getElem?_append_left hi, List.getD_eq_getElem?_getD], hf xs.length (by rw [List.length_append]; simp)]
      simp
  exact go ns _ fun _ _ => rfl
theorem intsK_list {ds : List (Key × D)} (h : intsK ds) : ∃ ns : List Int, ds.map (·.2) = ns.map .int := by
  induction ds with
  | nil => exact ⟨[], rfl⟩
  | cons p ds ih =>
    obtain ⟨ns, e⟩ := ih fun q hq => h q (List.mem_cons_of_mem _ hq)
    obtain ⟨i, ei⟩ := h p List.mem_cons_self
    exact ⟨i :: ns, by rw [List.map_cons, List.map_cons, e, ei]⟩
def mSumVals (ma : TM) : TM := fun δ Q E => ma δ (fun d => ∃ (ds : List (Key × D)) (ns : List Int), d = .dict ds ∧ ds.map (·.2) = ns.map .int ∧ Q (.int ns.sum)) E
section
variable {X : Cx} {W : WX} {e : Expr} {te : TE} {ba : Bool} {ma : TM} {p apos cpos pos : Pos}
theorem pe_sumVals (hc : X.calm = true) (he : PE X e te) (hg : Gl X "sum") (hm : X.mg "sum" = none) (hv : bootBuiltins "sum" = some (.builtin "sum")) (hbase : attributeBase e "values" X.env (eval e X.env) = eval e X.env := by rfl) (hline : (apos.endLine == cpos.line) = true := by rfl)
    (hs : starEach [.Call (.Attribute e "values" apos) [] [] cpos] X.env = (false, eval (.Call (.Attribute e "values" apos) [] [] cpos) X.env) :: starEach [] X.env := by rfl) (hpl : (backTo pos (starEach [] X.env)).any (·.1) = false := by rfl) :
    PE X (.Call (.Name "sum" p) [.Call (.Attribute e "values" apos) [] [] cpos] [] pos) (fun σ H Q => te σ H fun x H1 => ∃ (d : Addr) (kvs : List (Key × V)) (ns : List Int), x = .ref d ∧ Rd H1 d (.dK kvs) ∧ kvs.map (·.2) = ns.map V.int ∧ Q (.int ns.sum) H1) := by
  refine ⟨fun pins s σ H Q I hq => ?_⟩
  refine wpAny_Call_Name_kw (ld_blt I hg hm hv ?_)
  refine PyProof.Rows.callWith_builtin1 ?_ hs hpl
  rw [hs]
  change wpAny _ _ (spliced ((false, eval (.Call (.Attribute e "values" apos) [] [] cpos) X.env) :: backTo pos (starEach [] X.env))) _ _ s
  refine Calls.spliced_cons ?_
  refine wpAny_Call_method (T := "dict") (id := "dict.values") hbase rfl hline F.plainAttrs_dict F.slot_dict_values F.type_dict_values (thn (he.run pins s σ H _ I hq) fun u s1 ⟨x, H1, I1, rx, d, kvs, ns, ex, hd, hn, q⟩ => ?_)
  subst ex
  obtain rfl : u = Value.ref d := rx
  obtain ⟨hz, hs0, vs, kv, hdo⟩ := dk_rd I1.hok hd
  obtain ⟨ep, hat⟩ := hdo.dictAt
  have lk := kv.length
  have I2 : Inv X pins σ H1 { s1 with heap := s1.heap.push { cls := .type "dict_values", data := .fields #[.ref d] } } := I1.kept (t' := s1.toks) fun b ob q => Heap.get?_push_of_some _ q
  refine ⟨hdo.typeIs, hdo.mapOf.noDict, ?_⟩
  change wpAny _ _ (callWith cpos (.builtin "dict.values") [.ref d] [] []) _ X.xe s1
  refine method_meetsIn F.slot_dict_values F.entry_dict_values rfl (PySem.evalArgs_none ⟨rfl, hdo.typeIs, F.args_dict_values_1 _, _, meets_dict_values (mixKind X.prog X.w) d hs0, ⟨vs, hdo⟩, ?_⟩)
  refine Calls.spliced_nil ?_
  have hvals : Vals (ns.map V.int) (vs.map (·.2)) := by rw [← hn]; exact kv_vals kv
  have ln : vs.length = ns.length := by
    have := hvals.length
    rw [List.length_map, List.length_map] at this
    exact this.symm
  refine sum_src (PySem.W.kdl_values (knd := mixKind X.prog X.w) (kvs := vs) (ep := ep)) (I1.ok.hd hc) ⟨⟨_, Heap.get?_push_size _ rfl, rfl, rfl⟩, hat.push _⟩ (fun i => ns.getD i 0) (fun i v ⟨k, hkv⟩ => ?_) fun h' tk t' hk => ?_
  · have g : (vs.map (·.2))[i]? = some v := by rw [List.getElem?_map, hkv] <;> rfl
    have hi : i < ns.length := by
      rw [← ln]
      refine Nat.lt_of_not_le fun z => ?_
      rw [List.getElem?_eq_none z] at hkv
      cases hkv
    obtain ⟨u, hu, ru⟩ := hvals.get (show (ns.map V.int)[i]? = some (V.int ns[i]) by rw [List.getElem?_map, List.getElem?_eq_getElem hi] <;> rfl)
    rw [g] at hu
    cases hu
    obtain ⟨t, rfl⟩ := ru
    exact ⟨t, by rw [List.getD_eq_getElem?_getD, List.getElem?_eq_getElem hi]; rfl⟩
  · rw [ln, pre_sum]
    exact ⟨.int ns.sum, H1, I2.kept (t' := tk) hk, ⟨t', rfl⟩, q⟩
theorem ints_vals {K : PySem.W.Frag} {H : Hp} : ∀ {vs : List (Key × V)} {ds : List (Key × D)} {ns : List Int}, RepKs K H vs ds → ds.map (·.2) = ns.map .int → vs.map (·.2) = ns.map V.int
  | _, _, [], .nil, _ => rfl
  | _, _, n :: ns, .cons r rr, h => by
    rw [List.map_cons, List.map_cons] at h
    injection h with h1 h2
    have h1 : _ = D.int n := h1
    subst h1
    cases r
    rw [List.map_cons, List.map_cons, ints_vals rr h2]
  | _, _, _ :: _, .nil, h => by cases h
  | _, _, [], .cons _ _, h => by cases h
theorem de_sumVals (hc : X.calm = true) (he : DE X W e ba ma) (hg : Gl X "sum") (hm : X.mg "sum" = none) (hv : bootBuiltins "sum" = some (.builtin "sum")) (hbase : attributeBase e "values" X.env (eval e X.env) = eval e X.env := by rfl) (hline : (apos.endLine == cpos.line) = true := by rfl)
    (hs : starEach [.Call (.Attribute e "values" apos) [] [] cpos] X.env = (false, eval (.Call (.Attribute e "values" apos) [] [] cpos) X.env) :: starEach [] X.env := by rfl) (hpl : (backTo pos (starEach [] X.env)).any (·.1) = false := by rfl) :
    DE X W (.Call (.Name "sum" p) [.Call (.Attribute e "values" apos) [] [] cpos] [] pos) false (mSumVals ma) :=
  PE.imp (pe_sumVals hc he hg hm hv hbase hline hs hpl) fun σ H Q ⟨F, own, δ, P, EK, A, m, q⟩ => ⟨F, own, δ, _, EK, A, m, fun d v H1 ⟨ds, ns, ed, en, pd⟩ s1 r1 => by
    subst ed
    obtain ⟨a, kvs, rfl, h1, h2, h3⟩ := r1.dict
    exact ⟨a, kvs, ns, rfl, h1, ints_vals h3 en, q _ _ H1 pd s1 (.cl (.int _))⟩⟩
end
/-! ### readings -/
theorem e_inD {neg : Bool} {x : D} {ds : List (Key × D)} {Q : Bool → Prop} : fInY neg x (.dict ds) Q = ∃ key : Key, x = keyD key ∧ Q (neg ^^ (valD ds key).isSome) := rfl
theorem e_lenD {ds : List (Key × D)} {Q : D → Prop} : fLenY [.dict ds] Q = Q (.int ds.length) := rfl
theorem e_listD {ds : List (Key × D)} {Q : D → Prop} : fListY [.dict ds] Q = Q (.list (ds.map fun kv => keyD kv.1)) := rfl
theorem e_tupD {ds : List (Key × D)} {Q : D → Prop} : fTupleY [.dict ds] Q = Q (.tup (ds.map fun kv => keyD kv.1)) := rfl
theorem e_eqD {ds es : List (Key × D)} {Q : Bool → Prop} : fEqY (.dict ds) (.dict es) Q = (intsK ds ∧ intsK es ∧ Q (eqK ds es)) := rfl
theorem e_neD {ds es : List (Key × D)} {Q : Bool → Prop} : fNeY (.dict ds) (.dict es) Q = (intsK ds ∧ intsK es ∧ Q (!eqK ds es)) := rfl
theorem e_keyI {i : Int} {P : Key → Prop} : (∃ key : Key, D.int i = keyD key ∧ P key) = P (.inl i) := by
  refine propext ⟨fun ⟨k, e, h⟩ => ?_, fun h => ⟨.inl i, rfl, h⟩⟩
  cases k with
  | inl j => injection e with e; subst e; exact h
  | inr z => injection e
theorem e_keyS {z : Str} {P : Key → Prop} : (∃ key : Key, D.str z = keyD key ∧ P key) = P (.inr z) := by
  refine propext ⟨fun ⟨k, e, h⟩ => ?_, fun h => ⟨.inr z, rfl, h⟩⟩
  cases k with
  | inl j => injection e
  | inr y => injection e with e; subst e; exact h
end DL

set_option Elab.async false
set_option linter.all false
set_option maxRecDepth 100000
set_option maxHeartbeats 4000000
/-! DL36: a, b = [..], [..], both one's own; d.get's form. -/
namespace DL
open PySem PySem.Spec PyProof.Rows L2
variable [TabsC]
section
variable {X : Cx} {W : WX} {a b e f o : Expr} {ma mb : TM} {x y : Str} {pos apos cpos : Pos}
def sParMM (i j : Nat) (ma mb : TM) : SM := fun δ k => ma δ (fun d => mb δ (fun e => k.nx ((δ.set i (.m d)).set j (.m e))) (k.er δ)) (k.er δ)
theorem ds_parmm (i j : Nat) {px py pt : Pos} {kt k2 : Nat} {pt2 : Pos} (hc : X.calm = true) (hN : X.N.Nodup) (ha : DF X W a ma) (hb : DF X W b mb) (hi : X.N[i]? = some x := by rfl) (hj : X.N[j]? = some y := by rfl) (hij : i ≠ j := by decide)
    (hx : X.env.scope.names.lookup x = some .local := by rfl) (hy : X.env.scope.names.lookup y = some .local := by rfl) (hs1 : starEach [a, b] X.env = (false, eval a X.env) :: starEach [b] X.env := by rfl) (hs2 : starEach [b] X.env = (false, eval b X.env) :: starEach [] X.env := by rfl)
    (hw : swappedStores [.Tuple [.Name x px, .Name y py] kt pt] (.Tuple [a, b] k2 pt2) X.env = pure (some [x, y]) := by rfl)
    (hs : swapsWithSole [.Tuple [.Name x px, .Name y py] kt pt] (.Tuple [a, b] k2 pt2) pos.line X.env = pure false := by rfl) : DS X W (.Assign [.Tuple [.Name x px, .Name y py] kt pt] (.Tuple [a, b] k2 pt2) pos) (sParMM i j ma mb) :=
  PS.imp (ps_par hc hN hi hj hij hx hy (pa_cons ha (pa_cons hb pa_nil hs2) hs1) hw hs) fun D σ H ⟨F, own, δ, k, E, h, L⟩ => ⟨F, own, δ, _, _, L.at E, h, fun d q H1 p1 hq s1 r1 => by
    have E1 := E.setm i hq s1 r1
    have hn : ∃ o, H1 q = some o ∧ Plain o := by
      cases r1 with
      | l z _ _ => exact ⟨_, z, plain_of⟩
      | d z _ _ => exact ⟨_, z, plain_of⟩
      | o _ z _ => exact ⟨_, z, plain_of⟩
    have G := E.grab hq s1 hn
    exact ⟨F, q :: own, δ, _, _, L.at G, p1, fun d2 p2 H2 pd hp2 s2 r2 => ⟨_, _, rfl, L.nx _ H2 (p2 :: q :: own) _ (E1.setm j hp2 s2 r2) pd⟩⟩⟩
theorem M2.of {m : Str} (base : attributeBase o m X.env (eval o X.env) = eval o X.env := by rfl)
    (few : ((backTo cpos (starEach [e, f] X.env)).all (fun x => !x.1) && (backToKw cpos (keywordEach [] X.env)).all (fun x => x.1.isSome) && decide (([e, f] : List Expr).length + ([] : List Keyword).length + (if ([] : List Keyword).isEmpty then 0 else 1) < 30)) = true := by rfl)
    (line : (apos.endLine == cpos.line) = true := by rfl) (trees : backTo cpos (starEach [e, f] X.env) = [(false, eval e X.env), (false, eval f X.env)] := by rfl) : M2 X o m apos e f cpos := ⟨base, few, line, trees⟩
end
end DL
namespace DL
open PySem PySem.Spec PyProof.Rows L2
theorem mul_l {i j : Int} (h : -(2 ^ 64) < i) (h' : i < 2 ^ 64) : IntMulOk i j := CMul.ok (.inl ⟨h, h'⟩)
theorem mul_r {i j : Int} (h : -(2 ^ 64) < j) (h' : j < 2 ^ 64) : IntMulOk i j := CMul.ok (.inr ⟨h, h'⟩)
end DL

set_option Elab.async false
set_option linter.all false
set_option maxRecDepth 100000
set_option maxHeartbeats 4000000
/-! DL37: tables of ints as plain lists of pairs. -/
namespace DL
open PySem PySem.Spec PyProof.Rows L2
variable [TabsC]
abbrev Tab := List (Int × Int)
def tabD (L : Tab) : List (Key × D) := L.map fun p => (.inl p.1, .int p.2)
def valT (L : Tab) (k : Int) : Option Int := (L.find? fun p => decide (p.1 = k)).map (·.2)
def cntT (L : Tab) (k : Int) : Int := (valT L k).getD 0
def keysT (L : Tab) : List Int := L.map (·.1)
def sortT (L : Tab) : Tab := (setL (keysT L)).map fun k => (k, cntT L k)
def totT (L : Tab) : Int := (L.map fun p => p.1 * p.2).sum
def numT (L : Tab) : Int := (L.map (·.2)).sum
theorem valT_none {L : Tab} {k : Int} (h : k ∉ keysT L) : valT L k = none := by
  unfold valT
  rw [List.find?_eq_none.mpr fun p hp => ?_] <;> try rfl
  intro z
  exact h (List.mem_map.mpr ⟨p, hp, of_decide_eq_true z⟩)
theorem valT_mem : ∀ {L : Tab} {p : Int × Int}, (keysT L).Nodup → p ∈ L → valT L p.1 = some p.2
  | q :: r, p, hn, h => by
    have hn := List.nodup_cons.mp hn
    unfold valT
    by_cases e : q.1 = p.1
    · rcases List.mem_cons.mp h with z | z
      · subst z
        rw [List.find?_cons_of_pos (by simp)]
        rfl
      · exact absurd (List.mem_map.mpr ⟨p, z, e.symm⟩) hn.1
    · rw [List.find?_cons_of_neg (by simpa using e)]
      rcases List.mem_cons.mp h with z | z
      · exact absurd (by rw [z]) e
      · exact valT_mem hn.2 z
theorem valT_some {L : Tab} {k v : Int} (h : valT L k = some v) : (k, v) ∈ L := by
  unfold valT at h
  obtain ⟨p, hp, e⟩ := Option.map_eq_some_iff.mp h
  have h1 := List.mem_of_find?_eq_some hp
  have h2 : p.1 = k := by
    have := List.find?_some hp
    exact of_decide_eq_true this
  subst h2 e
  exact h1
theorem valD_tab (L : Tab) (k : Int) : valD (tabD L) (.inl k) = (valT L k).map .int := by
  unfold valD tabD valT
  rw [List.find?_map, Option.map_map, Option.map_map]
  have e : ((fun kv : Key × D => decide (kv.1 = .inl k)) ∘ fun p : Int × Int => ((.inl p.1 : Key), D.int p.2)) = fun p => decide (p.1 = k) := by
    funext p
    simp [Function.comp]
  rw [e]
  rfl
theorem valD_in {L : Tab} {p : Int × Int} (hn : (keysT L).Nodup) (h : p ∈ L) : valD (tabD L) (.inl p.1) = some (.int p.2) := by
  rw [valD_tab, valT_mem hn h] <;> rfl
theorem tab_keysL (L : Tab) : (tabD L).map (fun kv => keyD kv.1) = (keysT L).map .int := by
  unfold tabD keysT
  rw [List.map_map, List.map_map] <;> rfl
theorem tab_keysK (L : Tab) : (tabD L).map (·.1) = (keysT L).map Sum.inl := by
  unfold tabD keysT
  rw [List.map_map, List.map_map] <;> rfl
theorem tab_vals (L : Tab) : (tabD L).map (·.2) = (L.map (·.2)).map .int := by
  unfold tabD
  rw [List.map_map, List.map_map] <;> rfl
theorem tab_items (L : Tab) : (tabD L).map pairKD = L.map pairD := by
  unfold tabD
  rw [List.map_map] <;> rfl
theorem tab_pairs (L : Tab) : L.map pairD = (tabD L).map pairKD := (tab_items L).symm
theorem tab_len (L : Tab) : (tabD L).length = L.length := by
  unfold tabD
  rw [List.length_map]
theorem tab_ints (L : Tab) : intsK (tabD L) := fun p hp => by
  obtain ⟨q, _, rfl⟩ := List.mem_map.mp hp
  exact ⟨q.2, rfl⟩
theorem putD_new {L : Tab} {k v : Int} (h : k ∉ keysT L) : putD (tabD L) (.inl k) (.int v) = tabD (L ++ [(k, v)]) := by
  unfold putD
  rw [if_neg]
  · unfold tabD
    rw [List.map_append] <;> rfl
  · intro z
    obtain ⟨p, hp, e⟩ := List.any_eq_true.mp z
    obtain ⟨q, hq, rfl⟩ := List.mem_map.mp hp
    have e := of_decide_eq_true e
    cases e
    exact h (List.mem_map.mpr ⟨q, hq, rfl⟩)
theorem merge_new : ∀ {M L : Tab}, (keysT (L ++ M)).Nodup → mergeD (tabD L) (tabD M) = tabD (L ++ M)
  | [], L, _ => by rw [List.append_nil] <;> rfl
  | p :: M, L, h => by
    have e : L ++ p :: M = (L ++ [p]) ++ M := by simp
    show mergeD (putD (tabD L) (.inl p.1) (.int p.2)) (tabD M) = _
    rw [putD_new (v := p.2) (fun z => ?_), merge_new (by rw [← e]; exact h), e]
    unfold keysT at h z
    rw [List.map_append] at h
    exact (List.nodup_append.mp h).2.2 _ z _ (List.mem_cons_self) rfl
theorem merge_all {M : Tab} (h : (keysT M).Nodup) : mergeD [] (tabD M) = tabD M := merge_new (L := []) h
theorem sortT_keys (L : Tab) : keysT (sortT L) = setL (keysT L) := by
  unfold sortT keysT
  rw [List.map_map]
  exact List.map_id' _
theorem sortT_nodup (L : Tab) : (keysT (sortT L)).Nodup := by
  rw [sortT_keys]
  exact setL_pair.imp fun z => by omega
theorem cntT_mem {L : Tab} {p : Int × Int} (hn : (keysT L).Nodup) (h : p ∈ L) : cntT L p.1 = p.2 := by
  unfold cntT
  rw [valT_mem hn h] <;> rfl
theorem sortT_mem {L : Tab} (hn : (keysT L).Nodup) {p : Int × Int} : p ∈ sortT L ↔ p ∈ L := by
  unfold sortT
  constructor
  · intro h
    obtain ⟨k, hk, rfl⟩ := List.mem_map.mp h
    obtain ⟨q, hq, rfl⟩ := List.mem_map.mp (setL_mem.mp hk)
    rw [cntT_mem hn hq]
    exact hq
  · intro h
    refine List.mem_map.mpr ⟨p.1, setL_mem.mpr (List.mem_map.mpr ⟨p, h, rfl⟩), ?_⟩
    rw [cntT_mem hn h]
theorem nodup_of_keys {L : Tab} (hn : (keysT L).Nodup) : L.Nodup := by
  unfold keysT at hn
  exact (List.pairwise_map.mp hn).imp fun h e => h (by rw [e])
theorem sortT_perm {L : Tab} (hn : (keysT L).Nodup) : (sortT L).Perm L :=
  (List.perm_ext_iff_of_nodup (nodup_of_keys (sortT_nodup L)) (nodup_of_keys hn)).mpr fun _ => sortT_mem hn
theorem sortT_val {L : Tab} (hn : (keysT L).Nodup) (k : Int) : valT (sortT L) k = valT L k := by
  cases e : valT L k with
  | some v => exact valT_mem (p := (k, v)) (sortT_nodup L) ((sortT_mem hn).mpr (valT_some e))
  | none =>
    cases e2 : valT (sortT L) k with
    | none => rfl
    | some v =>
      have := valT_mem (p := (k, v)) hn ((sortT_mem hn).mp (valT_some e2))
      rw [e] at this
      cases this
theorem perm_sum {α : Type} (f : α → Int) {l m : List α} (h : l.Perm m) : (l.map f).sum = (m.map f).sum := by
  induction h with
  | nil => rfl
  | cons x _ ih => rw [List.map_cons, List.map_cons, List.sum_cons, List.sum_cons, ih]
  | swap x y l =>
    rw [List.map_cons, List.map_cons, List.map_cons, List.map_cons, List.sum_cons, List.sum_cons, List.sum_cons, List.sum_cons]
    omega
  | trans _ _ a b => exact a.trans b
theorem totT_sort {L : Tab} (hn : (keysT L).Nodup) : totT (sortT L) = totT L := perm_sum _ (sortT_perm hn)
theorem numT_sort {L : Tab} (hn : (keysT L).Nodup) : numT (sortT L) = numT L := perm_sum _ (sortT_perm hn)
theorem sortT_asc (L : Tab) : (sortT L).Pairwise (fun p q => p.1 < q.1) := by
  have h : (keysT (sortT L)).Pairwise (· < ·) := by rw [sortT_keys]; exact setL_pair
  exact List.pairwise_map.mp h
end DL

set_option Elab.async false
set_option linter.all false
set_option maxRecDepth 100000
set_option maxHeartbeats 4000000
/-! DL38: what can be paid out of a table whose sizes are a chain. -/
namespace DL
open PySem PySem.Spec PyProof.Rows L2
variable [TabsC]
def lowT (L : Tab) (s : Int) : Int := totT (L.filter fun p => decide (p.1 < s))
def growP (found : List Tab) (p : Int × Int) : List Tab := found.flatMap fun q => q :: (List.range p.2.toNat).map fun (i : Nat) => q ++ [(p.1, 1 + (i : Int))]
def partsT (L : Tab) : List Tab := L.foldl growP [[]]
theorem parts_snoc (L : Tab) (p : Int × Int) : partsT (L ++ [p]) = growP (partsT L) p := by
  unfold partsT
  rw [List.foldl_append] <;> rfl
theorem totT_append (L M : Tab) : totT (L ++ M) = totT L + totT M := by
  unfold totT
  rw [List.map_append, List.sum_append]
theorem totT_one (s c : Int) : totT [(s, c)] = s * c := by
  unfold totT
  simp
theorem lowT_perm {L M : Tab} (h : L.Perm M) (s : Int) : lowT L s = lowT M s := perm_sum _ (h.filter _)
theorem tabs_ind {P : Tab → Prop} (h0 : P []) (h1 : ∀ L p, P L → P (L ++ [p])) (L : Tab) : P L := by
  have go : ∀ (n : Nat) (L : Tab), L.length = n → P L := by
    intro n
    induction n with
    | zero =>
      intro L h
      rw [List.length_eq_zero_iff.mp h]
      exact h0
    | succ n ih =>
      intro L h
      have hne : L ≠ [] := fun z => by rw [z] at h; cases h
      rw [← List.dropLast_concat_getLast hne]
      exact h1 _ _ (ih _ (by rw [List.length_dropLast]; omega))
  exact go _ L rfl
structure ChT (L : Tab) : Prop where
  pos : ∀ p, p ∈ L → 1 ≤ p.1 ∧ 0 ≤ p.2
  asc : L.Pairwise fun p q => p.1 < q.1
  dvd : L.Pairwise fun p q => p.1 ∣ q.1
theorem ChT.init {L : Tab} {p : Int × Int} (h : ChT (L ++ [p])) : ChT L ∧ (∀ q, q ∈ L → q.1 < p.1 ∧ q.1 ∣ p.1) ∧ 1 ≤ p.1 ∧ 0 ≤ p.2 := by
  have a := List.pairwise_append.mp h.asc
  have d := List.pairwise_append.mp h.dvd
  have e := h.pos p (List.mem_append_right _ List.mem_cons_self)
  exact ⟨⟨fun q hq => h.pos q (List.mem_append_left _ hq), a.1, d.1⟩, fun q hq => ⟨a.2.2 q hq p List.mem_cons_self, d.2.2 q hq p List.mem_cons_self⟩, e.1, e.2⟩
theorem totT_pos {L : Tab} (h : ∀ p, p ∈ L → 1 ≤ p.1 ∧ 0 ≤ p.2) : 0 ≤ totT L := by
  induction L with
  | nil => exact Int.le_refl _
  | cons p L ih =>
    have e : totT (p :: L) = p.1 * p.2 + totT L := rfl
    have := ih fun q hq => h q (List.mem_cons_of_mem _ hq)
    have hp := h p List.mem_cons_self
    have := Int.mul_nonneg (show 0 ≤ p.1 by omega) hp.2
    omega
theorem lowT_init {L : Tab} {p q : Int × Int} (hq : q ∈ L) (h : ChT (L ++ [p])) : lowT (L ++ [p]) q.1 = lowT L q.1 := by
  have := (h.init.2.1 q hq).1
  unfold lowT
  rw [List.filter_append, List.filter_cons_of_neg (by simp; omega), List.filter_nil, List.append_nil]
theorem lowT_last {L : Tab} {p : Int × Int} (h : ChT (L ++ [p])) : lowT (L ++ [p]) p.1 = totT L := by
  unfold lowT
  rw [List.filter_append, List.filter_cons_of_neg (by simp), List.filter_nil, List.append_nil, List.filter_eq_self.mpr fun q hq => decide_eq_true (h.init.2.1 q hq).1]
def payT (L : Tab) (a : Int) : Prop := ∃ q, q ∈ partsT L ∧ totT q = a
theorem pay_snoc {L : Tab} {p : Int × Int} (hp : 0 ≤ p.2) (a : Int) : payT (L ++ [p]) a ↔ ∃ k : Int, 0 ≤ k ∧ k ≤ p.2 ∧ payT L (a - p.1 * k) := by
  unfold payT
  rw [parts_snoc]
  unfold growP
  constructor
  · rintro ⟨q, hq, e⟩
    obtain ⟨r, hr, hq⟩ := List.mem_flatMap.mp hq
    rcases List.mem_cons.mp hq with rfl | hq
    · exact ⟨0, Int.le_refl _, hp, q, hr, by rw [e]; simp⟩
    · obtain ⟨i, hi, rfl⟩ := List.mem_map.mp hq
      have hi := List.mem_range.mp hi
      refine ⟨1 + (i : Int), by omega, by omega, r, hr, ?_⟩
      rw [totT_append, totT_one] at e
      omega
  · rintro ⟨k, k0, k1, q, hq, e⟩
    by_cases z : k = 0
    · subst z
      exact ⟨q, List.mem_flatMap.mpr ⟨q, hq, List.mem_cons_self⟩, by rw [e]; simp⟩
    · refine ⟨q ++ [(p.1, k)], List.mem_flatMap.mpr ⟨q, hq, List.mem_cons_of_mem _ (List.mem_map.mpr ⟨(k - 1).toNat, List.mem_range.mpr (by omega), ?_⟩)⟩, ?_⟩
      · rw [show 1 + (((k - 1).toNat : Nat) : Int) = k by omega]
      · rw [totT_append, totT_one, e]
        omega
/-- what can be paid is told by the remainders -/
theorem pay_iff (L : Tab) : ChT L → ∀ a : Int, 0 ≤ a → (payT L a ↔ a ≤ totT L ∧ ∀ p, p ∈ L → a % p.1 ≤ lowT L p.1) := by
  refine tabs_ind (P := fun L => ChT L → ∀ a : Int, 0 ≤ a → (payT L a ↔ a ≤ totT L ∧ ∀ p, p ∈ L → a % p.1 ≤ lowT L p.1)) (fun _ a ha => ?_) (fun L p ih h a ha => ?_) L
  · constructor
    · rintro ⟨q, hq, e⟩
      rw [List.mem_singleton.mp hq] at e
      exact ⟨by rw [← e]; exact Int.le_refl _, fun p hp => by cases hp⟩
    · rintro ⟨e, _⟩
      have e : a ≤ 0 := e
      exact ⟨[], List.mem_singleton.mpr rfl, show (0 : Int) = a by omega⟩
  · obtain ⟨hL, hlt, p1, p2⟩ := h.init
    have t0 := totT_pos hL.pos
    rw [pay_snoc p2]
    have mods : ∀ q, q ∈ L → ∀ k : Int, (a - p.1 * k) % q.1 = a % q.1 := fun q hq k => by
      obtain ⟨m, em⟩ := (hlt q hq).2
      rw [em, Int.mul_assoc]
      exact Int.sub_mul_emod_self_left a q.1 (m * k)
    constructor
    · rintro ⟨k, k0, k1, hk⟩
      have nn : 0 ≤ a - p.1 * k := by
        obtain ⟨q, hq, e⟩ := hk
        rw [← e]
        refine totT_pos fun r hr => ?_
        -- parts are made of sizes and counts
        have mem : ∀ M : Tab, (∀ p, p ∈ M → 1 ≤ p.1 ∧ 0 ≤ p.2) → ∀ q, q ∈ partsT M → ∀ r, r ∈ q → 1 ≤ r.1 ∧ 0 ≤ r.2 := by
          intro M
          refine tabs_ind (P := fun M => (∀ p, p ∈ M → 1 ≤ p.1 ∧ 0 ≤ p.2) → ∀ q, q ∈ partsT M → ∀ r, r ∈ q → 1 ≤ r.1 ∧ 0 ≤ r.2) (fun _ q hq r hr => ?_) (fun M p ih hM q hq r hr => ?_) M
          · rw [List.mem_singleton.mp hq] at hr; cases hr
          · rw [parts_snoc] at hq
            obtain ⟨s, hs, hq⟩ := List.mem_flatMap.mp hq
            have old := ih (fun p hp => hM p (List.mem_append_left _ hp)) s hs
            rcases List.mem_cons.mp hq with rfl | hq
            · exact old r hr
            · obtain ⟨i, hi, rfl⟩ := List.mem_map.mp hq
              rcases List.mem_append.mp hr with hr | hr
              · exact old r hr
              · rw [List.mem_singleton.mp hr]
                exact ⟨(hM p (List.mem_append_right _ List.mem_cons_self)).1, show 0 ≤ 1 + (i : Int) by omega⟩
        exact mem L hL.pos q hq r hr
      obtain ⟨u1, u2⟩ := (ih hL _ nn).mp hk
      refine ⟨?_, fun q hq => ?_⟩
      · rw [totT_append, show totT [p] = p.1 * p.2 from totT_one _ _]
        have := Int.mul_le_mul_of_nonneg_left k1 (show 0 ≤ p.1 by omega)
        omega
      · rcases List.mem_append.mp hq with hq | hq
        · rw [lowT_init hq h, ← mods q hq k]
          exact u2 q hq
        · rw [List.mem_singleton.mp hq, lowT_last h]
          have e : (a - p.1 * k) % p.1 = a % p.1 := Int.sub_mul_emod_self_left a p.1 k
          rw [← e]
          have : (a - p.1 * k) % p.1 ≤ a - p.1 * k := by
            have m := Int.emod_add_mul_ediv (a - p.1 * k) p.1
            have d := Int.ediv_nonneg nn (show 0 ≤ p.1 by omega)
            have := Int.mul_nonneg (show 0 ≤ p.1 by omega) d
            omega
          omega
    · rintro ⟨t, u⟩
      rw [totT_append, show totT [p] = p.1 * p.2 from totT_one _ _] at t
      have ul := u p (List.mem_append_right _ List.mem_cons_self)
      rw [lowT_last h] at ul
      have m := Int.emod_add_mul_ediv a p.1
      have d := Int.ediv_nonneg ha (show 0 ≤ p.1 by omega)
      have m0 := Int.emod_nonneg a (show p.1 ≠ 0 by omega)
      have old : ∀ k : Int, ∀ q, q ∈ L → (a - p.1 * k) % q.1 ≤ lowT L q.1 := fun k q hq => by
        rw [mods q hq k, ← lowT_init hq h]
        exact u q (List.mem_append_left _ hq)
      by_cases c : a / p.1 ≤ p.2
      · exact ⟨a / p.1, d, c, (ih hL _ (by omega)).mpr ⟨by omega, old _⟩⟩
      · have big : p.1 * (p.2 + 1) ≤ p.1 * (a / p.1) := Int.mul_le_mul_of_nonneg_left (by omega) (by omega)
        rw [Int.mul_add, Int.mul_one] at big
        exact ⟨p.2, p2, Int.le_refl _, (ih hL _ (by omega)).mpr ⟨by omega, old _⟩⟩
end DL

set_option Elab.async false
set_option linter.all false
set_option maxRecDepth 100000
set_option maxHeartbeats 4000000
/-! DL39: dict comprehensions that make tables. -/
namespace DL
open PySem PySem.Spec PyProof.Rows L2
variable [TabsC]
/-- every item gives one new pair, or none -/
theorem compD_tab {g : GM} {mt : BM} {mk mv : TM} {δ0 : List DV} {α : Type} (f : α → Int × Int) (c : α → Bool) (dx : α → D) : ∀ {xs : List α} {acc : Tab} {Q : D → Prop},
    (∀ x, x ∈ xs → ∀ (R : Key → D → Prop) (S : Prop), (if c x = true then R (.inl (f x).1) (.int (f x).2) else S) → g (dx x) δ0 fun δ' => mt δ' (fun b => if b = true then mk δ' (fun kd => mv δ' (fun v => ∃ key : Key, kd = keyD key ∧ R key v) NoE) NoE else S) NoE) →
    (keysT (acc ++ (xs.filter c).map f)).Nodup → Q (.dict (tabD (acc ++ (xs.filter c).map f))) → compD g mt mk mv δ0 (xs.map dx) (tabD acc) Q
  | [], acc, Q, _, _, q => by
    rw [List.filter_nil, List.map_nil, List.append_nil] at q
    exact q
  | x :: xs, acc, Q, h, hn, q => by
    rw [List.map_cons]
    unfold compD
    refine h x List.mem_cons_self (fun key v => compD g mt mk mv δ0 (xs.map dx) (putD (tabD acc) key v) Q) (compD g mt mk mv δ0 (xs.map dx) (tabD acc) Q) ?_
    have ih := fun (acc : Tab) => compD_tab (g := g) (mt := mt) (mk := mk) (mv := mv) (δ0 := δ0) f c dx (xs := xs) (acc := acc) (Q := Q) fun y hy => h y (List.mem_cons_of_mem _ hy)
    cases e : c x with
    | false =>
      rw [if_neg Bool.false_ne_true]
      rw [List.filter_cons_of_neg (by rw [e]; exact Bool.false_ne_true)] at hn q
      exact ih acc hn q
    | true =>
      rw [if_pos rfl]
      rw [List.filter_cons_of_pos e, List.map_cons] at hn q
      have es : acc ++ f x :: (xs.filter c).map f = (acc ++ [f x]) ++ (xs.filter c).map f := by simp
      have new : (f x).1 ∉ keysT acc := fun z => by
        unfold keysT at hn z
        rw [List.map_append] at hn
        exact (List.nodup_append.mp hn).2.2 _ z _ List.mem_cons_self rfl
      rw [putD_new new]
      rw [es] at hn q
      exact ih (acc ++ [f x]) hn q
def iOf : D → Int
  | .int i => i
  | _ => 0
theorem e_lk {f : Str} {v : D} {r : List (Str × D)} : List.lookup f ((f, v) :: r) = some v := by
  unfold List.lookup
  simp
theorem sum_nn {xs : List Int} (h : ∀ x, x ∈ xs → 0 ≤ x) : 0 ≤ xs.sum := by
  induction xs with
  | nil => exact Int.le_refl _
  | cons x r ih =>
    rw [List.sum_cons]
    have := ih fun y hy => h y (List.mem_cons_of_mem _ hy)
    have := h x List.mem_cons_self
    omega
theorem growP_append (a b : List Tab) (p : Int × Int) : growP (a ++ b) p = growP a p ++ growP b p := by
  unfold growP
  rw [List.flatMap_append]
theorem growP_one (q : Tab) (p : Int × Int) : growP [q] p = q :: (List.range p.2.toNat).map fun (i : Nat) => q ++ [(p.1, 1 + (i : Int))] := by
  unfold growP
  simp
theorem growP_len (a : List Tab) (p : Int × Int) : a.length ≤ (growP a p).length := by
  induction a with
  | nil => exact Nat.zero_le _
  | cons q a ih =>
    have e : growP (q :: a) p = growP [q] p ++ growP a p := growP_append [q] a p
    rw [e, List.length_append, growP_one, List.length_cons, List.length_cons]
    omega
theorem growP_take (a : List Tab) (p : Int × Int) (j : Nat) : (growP (a.take j) p).length ≤ (growP a p).length := by
  have e := growP_append (a.take j) (a.drop j) p
  rw [List.take_append_drop] at e
  rw [e, List.length_append]
  omega
theorem parts_le (L : Tab) : ∀ M : Tab, (partsT L).length ≤ (partsT (L ++ M)).length := by
  refine tabs_ind (by rw [List.append_nil]; exact Nat.le_refl _) fun M p ih => ?_
  rw [← List.append_assoc, parts_snoc]
  exact Nat.le_trans ih (growP_len _ _)
theorem parts_take (L : Tab) (i : Nat) : (partsT (L.take i)).length ≤ (partsT L).length := by
  have := parts_le (L.take i) (L.drop i)
  rwa [List.take_append_drop] at this
theorem parts_keys : ∀ (M : Tab) (q : Tab), q ∈ partsT M → (keysT q).Sublist (keysT M) := by
  refine tabs_ind (fun q hq => ?_) fun M p ih q hq => ?_
  · rw [List.mem_singleton.mp hq]
    exact List.Sublist.refl _
  · rw [parts_snoc] at hq
    obtain ⟨s, hs, hq⟩ := List.mem_flatMap.mp hq
    have e : keysT (M ++ [p]) = keysT M ++ [p.1] := by unfold keysT; rw [List.map_append] <;> rfl
    rw [e]
    rcases List.mem_cons.mp hq with rfl | hq
    · exact (ih _ hs).trans (List.sublist_append_left _ _)
    · obtain ⟨i, _, rfl⟩ := List.mem_map.mp hq
      have e2 : keysT (s ++ [(p.1, 1 + (i : Int))]) = keysT s ++ [p.1] := by unfold keysT; rw [List.map_append] <;> rfl
      rw [e2]
      exact (ih _ hs).append_right _
theorem valD_any (j : Key) : ∀ kvs : List (Key × D), (valD kvs j).isSome = kvs.any fun kv => decide (kv.1 = j)
  | [] => rfl
  | kv :: r => by
    have ih := valD_any j r
    unfold valD at ih ⊢
    rw [List.find?_cons, List.any_cons]
    by_cases e : kv.1 = j
    · rw [decide_eq_true e, Bool.true_or]; rfl
    · rw [decide_eq_false e, Bool.false_or, ← ih]
theorem any_put (kvs : List (Key × D)) (k j : Key) (v : D) : ((putD kvs k v).any fun kv => decide (kv.1 = j)) = ((kvs.any fun kv => decide (kv.1 = j)) || decide (k = j)) := by
  unfold putD
  split
  · rename_i h
    have e : ((kvs.map fun kv => if kv.1 = k then (kv.1, v) else kv).any fun kv => decide (kv.1 = j)) = kvs.any fun kv => decide (kv.1 = j) := by
      rw [List.any_map]
      congr 1
      funext kv
      show decide ((if kv.1 = k then (kv.1, v) else kv).1 = j) = _
      split <;> rfl
    rw [e]
    by_cases hk : k = j
    · subst hk
      rw [h] <;> rfl
    · rw [decide_eq_false hk, Bool.or_false]
  · rw [List.any_append, List.any_cons, List.any_nil, Bool.or_false]
theorem any_merge (j : Key) : ∀ (more kvs : List (Key × D)), ((mergeD kvs more).any fun kv => decide (kv.1 = j)) = ((kvs.any fun kv => decide (kv.1 = j)) || more.any fun kv => decide (kv.1 = j))
  | [], kvs => by rw [List.any_nil, Bool.or_false] <;> rfl
  | kv :: more, kvs => by
    show ((mergeD (putD kvs kv.1 kv.2) more).any fun kv => decide (kv.1 = j)) = _
    rw [any_merge j more, any_put, List.any_cons, Bool.or_assoc]
def lackL (L : Tab) (a : Int) : List Int := (keysT L).filter fun s => decide (lowT L s < a % s)
def payB (L : Tab) (a : Int) : Bool := decide (a ≤ totT L) && (lackL L a).isEmpty
theorem pay_bool {L : Tab} (h : ChT L) {a : Int} (ha : 0 ≤ a) : ((partsT L).any fun q => decide (totT q = a)) = payB L a := by
  rw [Bool.eq_iff_iff, List.any_eq_true]
  unfold payB lackL
  rw [Bool.and_eq_true, decide_eq_true_eq, List.isEmpty_iff, List.filter_eq_nil_iff]
  have z := pay_iff L h a ha
  unfold payT at z
  constructor
  · rintro ⟨q, hq, e⟩
    obtain ⟨z1, z2⟩ := z.mp ⟨q, hq, of_decide_eq_true e⟩
    refine ⟨z1, fun s hs => ?_⟩
    obtain ⟨p, hp, rfl⟩ := List.mem_map.mp hs
    have := z2 p hp
    simp only [decide_eq_true_eq]
    omega
  · rintro ⟨z1, z2⟩
    obtain ⟨q, hq, e⟩ := z.mpr ⟨z1, fun p hp => by
      have := z2 p.1 (List.mem_map.mpr ⟨p, hp, rfl⟩)
      simp only [decide_eq_true_eq] at this
      omega⟩
    exact ⟨q, hq, decide_eq_true e⟩
def totOf : D → Int
  | .dict kvs => (kvs.map fun kv => match kv with
    | (.inl k, .int v) => k * v
    | _ => 0).sum
  | _ => 0
theorem totOf_tab (L : Tab) : totOf (.dict (tabD L)) = totT L := by
  unfold totOf tabD totT
  dsimp only
  rw [List.map_map] <;> rfl
end DL

set_option Elab.async false
set_option linter.all false
set_option maxRecDepth 100000
set_option maxHeartbeats 4000000
/-! DL40: f-strings of texts and ints. -/
namespace DL
open PySem PySem.Spec PyProof.Rows L2
variable [TabsC]
def mFmt (ma : TM) : TM := fun δ Q E => ma δ (fun d => (∃ y : Str, d = .str y ∧ y.length ≤ sizeLine ∧ Q (.str y)) ∨ ∃ i : Int, d = .int i ∧ i.natAbs.log2 < 1920 ∧ Q (.str (toString i))) E
def mJs : List TM → Str → List DV → (Str → Prop) → (Er → Prop) → Prop
  | [], acc, _, Q, _ => Q acc
  | m :: ms, acc, δ, Q, E => m δ (fun d => ∃ y : Str, d = .str y ∧ (acc ++ y).length ≤ sizeLine ∧ mJs ms (acc ++ y) δ Q E) E
def mJoined (ms : List TM) : TM := fun δ Q E => mJs ms Str.empty δ (fun out => Q (.str out)) E
section
variable {X : Cx} {W : WX} {e : Expr} {ma : TM} {ba : Bool} {pos : Pos}
theorem de_fmt (he : DE X W e ba ma) : DE X W (.FormattedValue e (-1) none pos) false (mFmt ma) :=
  PE.imp (pe_fmt he) fun σ H Q ⟨F, own, δ, P, EK, A, m, q⟩ => ⟨F, own, δ, _, EK, A, m, fun d v H1 m1 s1 r1 => by
    rcases m1 with ⟨y, ed, hy, pd⟩ | ⟨i, ed, hi, pd⟩
    · subst ed
      exact .inl ⟨y, r1.isStr, hy, q _ _ H1 pd s1 (.cl (.str _))⟩
    · subst ed
      exact .inr ⟨i, r1.isInt, hi, q _ _ H1 pd s1 (.cl (.str _))⟩⟩
inductive DJ (X : Cx) (W : WX) : List Expr → List TM → Prop where
  | nil : DJ X W [] []
  | cons {e : Expr} {m : TM} {es : List Expr} {ms : List TM} (h : DE X W e false m) (r : DJ X W es ms) : DJ X W (e :: es) (m :: ms)
theorem dj_nil : DJ X W [] [] := .nil
theorem dj_cons {m : TM} {es : List Expr} {ms : List TM} (h : DE X W e false m) (r : DJ X W es ms) : DJ X W (e :: es) (m :: ms) := .cons h r
theorem dj_pj {es : List Expr} {ms : List TM} (h : DJ X W es ms) : PJ X es (ms.map (tm X.K W false)) := by
  induction h with
  | nil => exact .nil
  | cons h _ ih => exact .cons h ih
theorem js_reading {F : Fm} {own : List Addr} {σ : L2.St} {δ : List DV} {P : Str → Prop} {EK : Er → Prop} {Q : Str → Hp → Prop} : ∀ {ms : List TM} {acc : Str} {H : Hp}, At X.K W σ H F own δ EK → mJs ms acc δ P EK → (∀ out H', P out → Same H H' → Q out H') → tJs (ms.map (tm X.K W false)) acc σ H Q
  | [], acc, H, A, m, q => q acc H m (Same.refl H)
  | _ :: ms, acc, H, A, m, q => ⟨F, own, δ, _, EK, A, m, fun d v H1 ⟨y, ed, hy, pd⟩ s1 r1 => by
    subst ed
    exact ⟨y, r1.isStr, hy, js_reading (A.on s1) pd fun out H' p s => q out H' p (s1.trans s)⟩⟩
theorem de_joined {v1 v2 : Expr} {rest : List Expr} {ms : List TM} (h : DJ X W (v1 :: v2 :: rest) ms) : DE X W (.JoinedStr (v1 :: v2 :: rest) pos) false (mJoined ms) :=
  PE.imp (pe_joined (dj_pj h)) fun σ H Q ⟨F, own, δ, P, EK, A, m, q⟩ => js_reading A m fun out H' p s => q _ _ H' p s (.cl (.str _))
end
end DL
namespace DL
open PySem PySem.Spec PyProof.Rows L2
variable [TabsC]
/-! ### o[e] of an own instance -/
structure GetO (K : PySem.W.Frag) (C g : Addr) : Prop where
  fn : PySem.W.isFn K (.ref g) = true
  kp : PySem.W.fnIn K g = true
  at_ : PySem.W.findIn K (.ref C) "__getitem__" = some (some (.ref g))
section
variable {X : Cx} {W : WX} {a b : Expr} {ma mb : TM} {n : Str} {C g : Addr} {k : Nat} {m : FM} {pos : Pos}
def rGetO (K : PySem.W.Frag) (C : Addr) (m : FM) : R2 := fun x y H Q => ∃ a dx vs, x = .ref a ∧ H a = some (.ins C dx vs) ∧ spD K m [x, y] H (fun v H' => Q v H') (fun _ _ _ => False)
def mGetO (n : Str) (m : FM) (ma mb : TM) : TM := fun δ Q E => ma δ (fun a => mb δ (fun b => ∃ fs : List (Str × D), a = .obj n fs ∧ m [a, b] Q NoE) E) E
theorem de_getO (hC : PySem.W.nsIn X.K mainGlobals n = some (some (.ref C))) (T : GetO X.K C g) (F : FnD X.prog X.w X.K X.mg X.base k g m) (hG : GdOk X.A X.base) (hr : Room (k + 1) X.A) (ha : DE X W a false ma) (hb : DE X W b false mb)
    (hs : ∀ o i, subscripted b true o i = runValue (.builtin "lifetime.subscript" ⟨[o, i], []⟩) := by intro _ _; rfl) : DE X W (.Subscript a b pos) false (mGetO n m ma mb) := by
  have ix : ∀ (pins : List (Addr × Obj)) (s : Shared) (σ : L2.St) (H : Hp) (x y : V) (v u : Value) (Q : VK), Inv X pins σ H s → RelV x v → RelV y u → rGetO X.K C m x y H Q → wpAny (model X.prog X.w) X.A (subscriptTail a b v u) (EP X pins σ Q) X.xe s := by
    intro pins s σ H x y v u Q I rx ry ⟨c, dx, fs, ex, ha, sp⟩
    subst ex
    obtain rfl : v = Value.ref c := rx
    obtain ⟨mA, O, _, _, _, _⟩ := ins_get I.hok ha
    obtain ⟨od, J, _⟩ := O.look
    obtain ⟨mm, hF⟩ := I.fr
    exact PySem.W.sub_K hF I.ok.mod.kin J T.at_ T.kp T.fn (run_own F hG hr.in1 I.env0.in1 I (vs := [V.ref c, y]) (.cons rfl (.cons ry .nil)) sp fun v u H' s' I' rv q => ⟨v, H', I', rv, q⟩) (hs _ _)
  have rule : PE X (.Subscript a b pos) (tOp (rGetO X.K C m) (tm X.K W false ma) (tm X.K W false mb)) := by
    refine ⟨fun pins s σ H Q I h => ?_⟩
    exact Subscript_ (binT ha hb I h fun v u s2 x y H2 I2 rx ry q => ix pins s2 σ H2 x y v u Q I2 rx ry q)
  refine PE.imp rule fun σ H Q ⟨F', own, δ, P, EK, A, mm, q⟩ => ?_
  refine ⟨F', own, δ, _, EK, A, mm, fun d x H1 m1 s1 r1 => ⟨F', own, δ, _, EK, A.on s1, m1, fun d2 y H2 ⟨fs, ed, m2⟩ s2 r2 => ?_⟩⟩
  subst ed
  have A2 := (A.on s1).on s2
  have r1' := r1.clean.mono (sub_same s2.ob)
  obtain ⟨C', c, dx, vs, hC', rfl, h1, h2⟩ := (RV.cl r1' : RV X.K F'.ls0 (F'.ls0 ++ own) H2 false x _).obj
  rw [hC] at hC'
  cases hC'
  exact ⟨c, dx, vs, rfl, h1, F'.ls0 ++ own, [.obj n fs, d2], P, NoE, A2.env.trk, A2.tabs, .cons r1' (.cons r2.clean .nil), m2, fun d v H' pd s3 r3 => q _ _ H' pd ((s1.trans s2).trans s3) (.cl r3), fun _ _ _ _ z => z.elim⟩
end
end DL

set_option Elab.async false
set_option linter.all false
set_option maxRecDepth 100000
set_option maxHeartbeats 4000000
/-! DL41: enumerate(a tuple). -/
namespace DL
open PySem PySem.Spec PyProof.Rows L2
variable [TabsC]
theorem meets_enum1 {v : Value} {o : Obj} {H : Heap → Prop} (B : Begins v o H) :
    Meets (Builtin.«enumerate.__new__» ⟨[.type "enumerate", v], []⟩) (fun _ R s => H s.heap ∧
      R (.ok (.ret (.ref (s.heap.push o).objs.size))) { s with heap := (s.heap.push o).push { cls := .type "enumerate", data := .fields #[.none, .bool false, .ref s.heap.objs.size, rawInt 0, .none, .none] } }) :=
  .of_wp fun prog w A R s h => by
    obtain ⟨hp, g, d, tk, os⟩ := s; obtain ⟨h1, h⟩ := h
    have hsub := sub_enumerate
    have q1 : ∀ {A' : Around} {E : Value → Shared → Prop} {Q : Value → Shared → Prop}, Q (.ref hp.objs.size) ⟨hp.push o, g, d, tk, os⟩ → wpAny (model prog w) A' (pyIter v) Q E ⟨hp, g, d, tk, os⟩ :=
      fun q => B.iter prog w _ _ ⟨hp, g, d, tk, os⟩ _ h1 q
    wp_walk using q1
    refine wpAny_stack_any fun st => wpAny_pure ?_
    split
    · rename_i c _ _ _ _ _
      cases (c == Value.type "enumerate")
      · wp_walk using q1
        exact ⟨_, rfl, h⟩
      · wp_walk using q1
        exact ⟨_, rfl, h⟩
    · wp_walk using q1
      exact ⟨_, rfl, h⟩
section
variable {prog : Program} {w : World} {A : Around} {E : Value → Shared → Prop} {s : Shared}
theorem enum_begins1 {v : Value} {o : Obj} {H : Heap → Prop} {Q : Value → Shared → Prop} (B : Begins v o H) (h1 : H s.heap)
    (h : ∀ h', IsEnum h' (s.heap.objs.size + 1) s.heap.objs.size 0 .none → h'.get? s.heap.objs.size = some o → h'.objs.size = s.heap.objs.size + 2 →
      (∀ b o, s.heap.get? b = some o → h'.get? b = some o) → Q (.ref (s.heap.objs.size + 1)) { s with heap := h' }) : wpAny (model prog w) A (call (.type "enumerate") [v]) Q E s := by
  refine callType_new F.called_enumerate (by decide) (F.typeCall_enumerate_1 _) (F.newCall_enumerate_1 _) (fun obj => F.args_object_init_2 obj _) F.entry_enumerate_new (meets_enum1 B) ⟨h1, ?_⟩
  have hz : (s.heap.push o).objs.size = s.heap.objs.size + 1 := Heap.size_push ..
  show _ ∧ _
  rw [hz]
  have he : IsEnum ((s.heap.push o).push { cls := .type "enumerate", data := .fields #[.none, .bool false, .ref s.heap.objs.size, rawInt 0, .none, .none] }) (s.heap.objs.size + 1) s.heap.objs.size 0 .none := by
    have := Heap.get?_push_size (s.heap.push o) (o := { cls := .type "enumerate", data := .fields #[.none, .bool false, .ref s.heap.objs.size, rawInt 0, .none, .none] }) rfl
    rw [hz] at this; exact this
  exact ⟨⟨_, he, rfl⟩, h _ he (Heap.get?_push_of_some _ (Heap.get?_push_size _ B.free)) (by rw [Heap.size_push, hz]) fun b o x => Heap.get?_push_of_some _ (Heap.get?_push_of_some _ x)⟩
end
/-- the tuple at a as it stands at each turn, each item in a new pair -/
def IteT (K : PySem.W.Frag) (a : Addr) : It :=
  ⟨fun i H => ∃ (xs : List V) (x : V), SqT K H a xs ∧ xs[i]? = some x, fun i H v H' => ∃ T x, v = .ref T ∧ H T = none ∧ H' = upd H T (.tup [.int (i : Nat), x]) ∧ ∀ xs, SqT K H a xs → xs[i]? = some x, fun i H => ∃ xs : List V, SqT K H a xs ∧ xs.length = i⟩
theorem turn_enumT {P : Program} {w : World} {K : PySem.W.Frag} {elts : List Expr} {kk : Nat} {tpos : Pos} {a e it : Addr} (hea : e ≠ a) (hia : a ≠ it) :
    Turn P w K (.Tuple elts kk tpos) (IteT K a) [e, it] e (fun i h => (∃ old, IsEnum h e it ((i : Nat) : Int) old) ∧ h.IsTupleIter it a i ∧ e ≠ it) where
  mem := by simp
  obj := fun i h st b hb => by
    obtain ⟨⟨old, he⟩, ⟨o, ho, hc, hd⟩, _⟩ := st
    have e' : b = e ∨ b = it := by simpa using hb
    rcases e' with z | z
    · rw [z]; exact ⟨_, he, fun v q => nomatch q⟩
    · rw [z]; exact ⟨o, ho, fun v q => by rw [hd] at q; cases q⟩
  keep := fun i h h' st k => let ⟨⟨old, he⟩, hi, hne⟩ := st; ⟨⟨old, k e (by simp) _ he⟩, hi.at fun o q => k it (by simp) o q, hne⟩
  item := by
    intro X hP hw hK hc i pins s σ H E I hf st hg
    subst hP hw hK
    obtain ⟨⟨old, he⟩, hit, hne⟩ := st
    obtain ⟨xs, x, hq, hx⟩ := hg
    obtain ⟨its, rv, p, hz⟩ := I.tuple hq
    obtain ⟨u, hu, ru⟩ := rv.get hx
    have hel : e < s.heap.objs.size := Heap.lt_size he
    have hil : it < s.heap.objs.size := by obtain ⟨_, q, _⟩ := hit; exact Heap.lt_size q
    have hlt : i < its.toArray.size := by
      refine Nat.lt_of_not_le fun z => ?_
      rw [List.getElem?_eq_none (by simpa using z)] at hu
      cases hu
    refine wpAny_pyNext_enum_itemD (PySem.Draws.tuple (show X.A.in1.handled = none from I.ok.hd hc) it a hia its.toArray) he ⟨hit, p⟩ hlt hne (by simp [hne, hea]) fun y h' tk hy ho hst' hT hsz hk => ?_
    have ey : y = u := by
      have e1 : its.toArray[i]? = some u := by simpa using hu
      rw [e1] at hy
      exact (Option.some.inj hy).symm
    subst ey
    refine ⟨_, rfl, wpAny_letOwnedTupleGo_enum (s := { s with heap := h', toks := tk + 1 }) ho fun h'' he' sb => ?_⟩
    have hT2 : h''.get? s.heap.objs.size = some { cls := .type "tuple", data := .seq #[.int i tk, y] } := (sb.2 _ (Nat.ne_of_gt hel)).trans hT
    have new : ObjOk X.prog X.w (upd H s.heap.objs.size (.tup [.int (i : Nat), x])) h'' s.heap.objs.size (.tup [.int (i : Nat), x]) :=
      ⟨by show 2 ≤ sizeLine; decide, [.int i tk, y], .cons ⟨_, rfl⟩ (.cons ru .nil), ⟨_, hT2, rfl, _, rfl⟩⟩
    have I1 : Inv X pins σ (upd H s.heap.objs.size (.tup [.int (i : Nat), x])) { s with heap := h'', toks := tk + 1 } :=
      I.turnedNew (ch := [e, it]) (fun b ob hb q => (sb.2 b (fun z => hb (by simp [z]))).trans (hk b ob (fun z => hb (by simp [z])) (fun z => hb (by simp [z])) q)) hf (Nat.le_refl _) new
    refine ⟨.ref s.heap.objs.size, _, I1, rfl, ⟨_, x, rfl, I.hok.fresh (Nat.le_refl _), rfl, fun ys hy => by rw [I.tuple_inj hy hq]; exact hx⟩, ⟨⟨y, ?_⟩, hst'.1.at fun o q => (sb.2 it (Ne.symm hne)).trans q, hne⟩, fun b hb => ?_⟩
    · have e1 : ((i + 1 : Nat) : Int) = (i : Int) + 1 := by omega
      rw [e1]; exact he'
    · have hb' : b < s.heap.objs.size := by
        have e' : b = e ∨ b = it := by simpa using hb
        rcases e' with z | z
        · rw [z]; exact hel
        · rw [z]; exact hil
      rw [upd_ne (Nat.ne_of_lt hb')]
      exact (hf b hb).1
  done := by
    intro X hP hw hK hc i pins s σ H E I hf st hg
    subst hP hw hK
    obtain ⟨⟨old, he⟩, hit, hne⟩ := st
    obtain ⟨xs, hq, hx⟩ := hg
    obtain ⟨its, rv, p, hz⟩ := I.tuple hq
    obtain ⟨f0, f1, f2, f3, f4, f5⟩ := hf it (by simp)
    have hl := rv.length
    have en : i = its.toArray.size := by rw [List.size_toArray]; omega
    subst en
    exact wpAny_pyNext_enum_endD (PySem.Draws.tuple (show X.A.in1.handled = none from I.ok.hd hc) it a hia its.toArray) he ⟨hit, p⟩ fun h' eb => ⟨rfl, I.turned (t' := s.toks) (fun b o hb q => eb b o hb q) f0 f1 f3 f4 f5⟩
  self := fun A i s Q E st h => let ⟨⟨_, he⟩, _⟩ := st; wpAny_pyIter_enum he h
def iEnumT (K : PySem.W.Frag) (ta : TA) : TI := fun σ H R => ta σ H fun vs H1 => ∃ a xs, vs = [.ref a] ∧ SqT K H1 a xs ∧ R (IteT K a) H1
theorem pi_enumT {X : Cx} {e : Expr} {ta : TA} {p pos tpos : Pos} {elts : List Expr} {kk : Nat} (hg : Gl X "enumerate") (hm : X.mg "enumerate" = none) (ha : PA X [e] ta) (hs : starEach [e] X.env = [(false, eval e X.env)] := by rfl) :
    PI X (.Tuple elts kk tpos) (.Call (.Name "enumerate" p) [e] [] pos) (iEnumT X.K ta) := by
  refine ⟨fun pins s σ H R I h => ?_⟩
  refine Call_ (ld_blt I hg hm boot_enumerate (PyProof.Rows.callWith_type1 (thn (ha.run pos pins s σ H _ I h) fun us s1 ⟨vs, H1, I1, r1, q1⟩ => ?_) hs rfl))
  obtain ⟨a, xs, ex, hq, q⟩ := q1
  subst ex
  obtain ⟨u, eu, rx⟩ := vals1 r1
  subst eu
  obtain rfl : u = Value.ref a := rx
  obtain ⟨its, rv, p', hz⟩ := I1.tuple hq
  have lta : a < s1.heap.objs.size := by obtain ⟨o1, ho1, _⟩ := id p'; exact Heap.lt_size ho1
  refine enum_begins1 (PySem.begins_tuple a its.toArray) (show s1.heap.IsTuple a its.toArray from p') fun h' he hit hsz hk => wpAny_pyIter_enum he ?_
  have I2 : Inv X pins σ H1 { s1 with heap := h' } := I1.kept (t' := s1.toks) hk
  refine ⟨s1.heap.objs.size + 1, [s1.heap.objs.size + 1, s1.heap.objs.size], _, _, H1, rfl, I2, turn_enumT (a := a) (e := s1.heap.objs.size + 1) (it := s1.heap.objs.size) (Nat.ne_of_gt (Nat.lt_succ_of_lt lta)) (Nat.ne_of_lt lta), ⟨⟨.none, he⟩, ⟨_, hit, rfl, rfl⟩, Nat.succ_ne_self _⟩, fun b hb => ?_, q⟩
  have e' : b = s1.heap.objs.size + 1 ∨ b = s1.heap.objs.size := by simpa using hb
  have hle : s1.heap.objs.size ≤ b := by
    rcases e' with z | z
    · rw [z]; exact Nat.le_add_right _ _
    · rw [z]; exact Nat.le_refl _
  exact I1.fpOk hle (I1.hok.fresh hle)
def enumD (ds : List D) : List D := ds.zipIdx.map fun p => .tup [.int p.2, p.1]
theorem enumD_get {ds : List D} {i : Nat} {d : D} (h : ds[i]? = some d) : (enumD ds)[i]? = some (.tup [.int i, d]) := by
  unfold enumD
  rw [List.getElem?_map, List.getElem?_zipIdx, h]
  simp
theorem enumD_len (ds : List D) : (enumD ds).length = ds.length := by unfold enumD; rw [List.length_map, List.length_zipIdx]
section
variable {X : Cx} {W : WX} {e : Expr} {ba : Bool} {la : LM} {p pos : Pos}
def mEnumT (la : LM) : LM := fun δ P E => la δ (fun ds => ∃ xs, ds = [.tup xs] ∧ P (enumD xs)) E
theorem itok_enumT {K : PySem.W.Frag} {Hg Hb : Hp} {a : Addr} {xs : List V} {ds : List D} (h : SqT K Hg a xs) (hz : xs.length ≤ sizeLine) (r : Reps K Hb xs ds) : ItOk K (IteT K a) Hg Hb (enumD ds) where
  sz := by rw [enumD_len, ← r.length]; exact hz
  go := fun i H s hi => by
    rw [enumD_len, ← r.length] at hi
    exact ⟨xs, xs[i], sameT s h, List.getElem?_eq_getElem hi⟩
  stop := fun i H s hi => by
    rw [enumD_len, ← r.length] at hi
    exact ⟨xs, sameT s h, hi.symm⟩
  yld := fun i H x H' ls s sb ht hi ⟨T, v, ev, hT, eH, k1⟩ => by
    subst ev eH
    obtain ⟨d, e1, r1⟩ := r.get (k1 xs (sameT s h))
    exact ⟨_, enumD_get e1, same_upd hT, new_tup ht hT (by show 2 ≤ sizeLine; rw [sizeLine_eq]; decide) (.cons (.int _) (.cons (r1.mono sb) .nil))⟩
theorem di_enumT {elts : List Expr} {kk : Nat} {tpos : Pos} (hg : Gl X "enumerate") (hm : X.mg "enumerate" = none) (ha : DA X W [e] ba la) (hs : starEach [e] X.env = [(false, eval e X.env)] := by rfl) :
    DI X W (.Tuple elts kk tpos) (.Call (.Name "enumerate" p) [e] [] pos) ba (mEnumT la) :=
  PI.imp (pi_enumT hg hm ha hs) fun σ H R ⟨F, own, δ, P, EK, A, m, q⟩ => ⟨F, own, δ, _, EK, A, m, fun ds vs H1 ⟨xs, ed, pq⟩ s r => by
    subst ed
    cases r with
    | cons r1 r =>
      cases r
      obtain ⟨a, us, rfl, h1, h2, h3⟩ := flo_tup r1
      exact ⟨a, us, rfl, sameT flo_le h1, q _ _ H1 pq s (itok_enumT h1 h2 h3)⟩⟩
end
end DL

set_option Elab.async false
set_option linter.all false
set_option maxRecDepth 100000
set_option maxHeartbeats 4000000
/-! DL42: sorted of tuples of ints. -/
namespace DL
open PySem PySem.Spec PyProof.Rows L2
variable [TabsC]
theorem Reps.perm {K : PySem.W.Frag} {H : Hp} {ys xs : List V} (h : ys.Perm xs) : ∀ {ds : List D}, Reps K H xs ds → ∃ es : List D, es.Perm ds ∧ Reps K H ys es := by
  induction h with
  | nil => intro ds r; exact ⟨ds, .refl _, r⟩
  | cons x _ ih =>
    intro ds r
    cases r with
    | cons h t =>
      obtain ⟨es, p, q⟩ := ih t
      exact ⟨_ :: es, p.cons _, .cons h q⟩
  | swap x y l =>
    intro ds r
    cases r with
    | cons h1 t => cases t with
      | cons h2 t => exact ⟨_ :: _ :: _, List.Perm.swap _ _ _, .cons h2 (.cons h1 t)⟩
  | trans _ _ ih1 ih2 =>
    intro ds r
    obtain ⟨es, p, q⟩ := ih2 r
    obtain ⟨fs, p', q'⟩ := ih1 q
    exact ⟨fs, p'.trans p, q'⟩
def rSortV (K : PySem.W.Frag) : List V → Hp → VK → Prop := fun vs H Q => ∃ (d : Nat) (B : Int), 1 ≤ d ∧ rSortU K d B vs H Q
theorem cr_sortV {X : Cx} : CallR X (.builtin "sorted") (rSortV X.K) := by
  intro pins s σ H vs us Q I r ⟨d, B, hd, h⟩
  exact cr_sortT hd pins s σ H vs us Q I r h
def tupsI (L : List (List Int)) : List D := L.map fun ns => .tup (ns.map .int)
theorem tup_at {K : PySem.W.Frag} {H H' : Hp} (hs : ∀ {a : Addr} {ys : List V}, SqT K H a ys → SqT K H' a ys) : ∀ {xs : List V} {L : List (List Int)}, Reps K H xs (tupsI L) → ∀ (i : Nat) (x : V), xs[i]? = some x → ∃ ns, L[i]? = some ns ∧ TupI K H' x ns
  | _, [], r, i, x, h => by
    cases r
    simp at h
  | _, ns :: L, r, i, x, h => by
    cases r with
    | cons h1 t =>
      cases i with
      | zero =>
        cases h
        cases h1 with
        | tup g1 g2 g3 =>
          rw [g3.of_ints] at g1
          exact ⟨ns, rfl, _, rfl, hs g1⟩
      | succ i => exact tup_at hs t i x (by simpa using h)
def fSortV (ds : List D) (Q : D → Prop) : Prop := ∃ (L : List (List Int)) (d : Nat) (B : Int), ds = [.list (tupsI L)] ∧ 1 ≤ d ∧ L.length < 64 ∧ (∀ ns, ns ∈ L → ns.length = d ∧ TS.Bd B ns) ∧ ∀ M : List (List Int), M.Perm L → M.Pairwise (fun n m => TS.code B n ≤ TS.code B m) → Q (.list (tupsI M))
theorem link_sortV {X : Cx} : LinkF X.K (rSortV X.K) fSortV := by
  intro fo ls H vs ds P Q ht r ⟨L, d, B, e, hd, hl, hL, h⟩ q
  subst e
  obtain ⟨v, rfl, rr⟩ := r.one
  obtain ⟨a, xs, rfl, h1, h2, h3⟩ := rr.list
  have len : xs.length = L.length := by rw [h3.length]; unfold tupsI; rw [List.length_map]
  refine ⟨d, B, hd, a, xs, rfl, .of h1, by omega, fun x hx => ?_, fun ys p hp hs hn => ?_⟩
  · obtain ⟨i, hi⟩ := List.getElem?_of_mem hx
    obtain ⟨ns, e1, e2⟩ := tup_at (fun z => sameT sub_le z) h3 i x hi
    have := hL ns (List.mem_of_getElem? e1)
    exact ⟨ns, e2, this.1, this.2⟩
  · obtain ⟨es, pe, re⟩ := Reps.perm hp h3
    obtain ⟨M, pM, eM⟩ := perm_lift (fun ns : List Int => D.tup (ns.map .int)) pe L rfl
    subst eM
    refine q _ p _ (h M pM ?_) hn (same_upd hn) (.l upd_same (by rw [hp.length_eq]; exact h2) (re.mono (sub_fresh hn (same_upd hn))))
    have lM : ys.length = M.length := by rw [re.length, List.length_map]
    refine List.pairwise_iff_getElem.mpr fun i j hi hj hij => ?_
    obtain ⟨n, n1, n2⟩ := tup_at (K := X.K) (fun z => sameT sub_le z) (show Reps X.K (sub H ls) ys (tupsI M) from re) i _ (List.getElem?_eq_getElem (by omega))
    obtain ⟨m, m1, m2⟩ := tup_at (K := X.K) (fun z => sameT sub_le z) (show Reps X.K (sub H ls) ys (tupsI M) from re) j _ (List.getElem?_eq_getElem (by omega))
    rw [List.getElem?_eq_getElem hi] at n1
    rw [List.getElem?_eq_getElem hj] at m1
    cases n1
    cases m1
    exact List.pairwise_iff_getElem.mp hs i j (by omega) (by omega) hij _ _ n2 m2
end DL

set_option Elab.async false
set_option linter.all false
set_option maxRecDepth 100000
set_option maxHeartbeats 4000000
/-! DL43: thunks: x(lambda: e), where x is a def that calls what it is handed. -/
namespace DL
open PySem PySem.Spec PyProof.Rows L2
variable [TabsC]

section
variable {X : Cx} {pins : List (Addr × Obj)} {σ : L2.St} {H : Hp} {s : Shared}
theorem codeO_plain {c : Addr} {q : Str} : isTbl (LamX.CodeO c q) = false := rfl
abbrev lamQ (X : Cx) : Str := X.env.qual ++ "<lambda>"
abbrev thkO (X : Cx) (pr : Arguments) (bd : Expr) (sc : Scope) (pm ct : Value) (c2 : Addr) : Obj := PySem.W.kla_obj "<lambda>" (lamQ X) pr bd sc (cloFrom X.env.cells sc.names []) pm c2 ct
/-- the table P is written once more, the code object at c2 is new: nothing else is touched -/
theorem same_code {P c2 : Addr} {q : Str} {ps : Array Value} {pos : Pos} (hu : ∀ p ∈ TabsC.T, p.1 = P → p.2 = q) (hP : H P = some (.tbl ps)) (ok : TriplesOk ps.toList) (nC : H c2 = none) :
    Same H (upd (upd H P (.tbl (ps ++ #[rawInt pos.line, rawInt pos.col, .ref c2]))) c2 (LamX.CodeO c2 q)) := by
  have ne : P ≠ c2 := ne_of_none hP nC
  have out : ∀ b, b ≠ P → b ≠ c2 → upd (upd H P (.tbl (ps ++ #[rawInt pos.line, rawInt pos.col, .ref c2]))) c2 (LamX.CodeO c2 q) b = H b := fun b n1 n2 => by rw [upd_ne n2, upd_ne n1]
  have here : upd (upd H P (.tbl (ps ++ #[rawInt pos.line, rawInt pos.col, .ref c2]))) c2 (LamX.CodeO c2 q) P = some (.tbl (ps ++ #[rawInt pos.line, rawInt pos.col, .ref c2])) := by rw [upd_ne ne, upd_same]
  have grow : ∀ b o, H b = some o → isTbl o = false → upd (upd H P (.tbl (ps ++ #[rawInt pos.line, rawInt pos.col, .ref c2]))) c2 (LamX.CodeO c2 q) b = some o := fun b o e n => by
    rw [out b (fun z => ?_) (ne_of_none e nC)]
    · exact e
    · rw [z, hP] at e; cases e; cases n
  refine ⟨⟨grow⟩, fun t p hp => ?_, fun b z => ?_⟩
  · obtain ⟨ts, t1, t2, t3⟩ := t p hp
    by_cases hb : p.1 = P
    · rw [hu p hp hb]
      rw [hu p hp hb] at t3
      rw [hb] at t1 ⊢
      rw [hP] at t1
      cases t1
      have eL : (ps ++ #[rawInt pos.line, rawInt pos.col, .ref c2]).toList = ps.toList ++ [rawInt pos.line, rawInt pos.col, .ref c2] := by simp
      refine ⟨_, here, by rw [eL]; exact PySem.TriplesOk_snoc _ _ _ _ ok, fun po cv hcv => ?_⟩
      rw [eL] at hcv
      rcases LamX.among_app _ ok hcv with z | z
      · obtain ⟨c0, e1, e2⟩ := t3 po cv z
        exact ⟨c0, e1, grow _ _ e2 rfl⟩
      · exact ⟨c2, z, upd_same⟩
    · refine ⟨ts, by rw [out _ hb (ne_of_none t1 nC)]; exact t1, t2, fun po cv hcv => ?_⟩
      obtain ⟨c0, e1, e2⟩ := t3 po cv hcv
      exact ⟨c0, e1, grow _ _ e2 rfl⟩
  · by_cases h1 : b = c2
    · rw [h1]; exact nC
    · by_cases h2 : b = P
      · rw [h2, here] at z; cases z
      · rw [out b h2 h1] at z; exact z
theorem lam_new {c P : Addr} {pr : Arguments} {bd : Expr} {sc : Scope} {pos : Pos} {EE : Value → Shared → Prop} {Q : Value → Shared → Prop} (I : Inv X pins σ H s) (tb : LamX.TabB X.base X.mg c P) (hcode : X.env.code = .ref c)
    (hm : (P, lamQ X) ∈ TabsC.T) (hu : ∀ p ∈ TabsC.T, p.1 = P → p.2 = lamQ X) (tabs : LamX.Tabs TabsC.T H) (nodef : defaultsOf pr X.env = ([], [])) (L : LamX.LamS X.env.scope sc)
    (go : ∀ (f c2 : Addr) (pm ct : Value) (H1 : Hp) (s1 : Shared), Inv X pins σ H1 s1 → Same H H1 → s1.heap.get? f = some (thkO X pr bd sc pm ct c2) → H1 f = none → f ∉ frs X.stack → H1 c2 = some (LamX.CodeO c2 (lamQ X)) → Q (.ref f) s1) :
    wpAny (model X.prog X.w) X.A (eval (.Lambda pr bd sc pos) X.env) Q EE s := by
  obtain ⟨ps, hP, ok, tell⟩ := tabs _ hm
  have there : s.heap.get? P = some (PySem.W.tabObj ps) := I.hok P _ hP
  have out : ∀ f, s.heap.objs.size ≤ f → f ∉ frs X.stack := fun f hf z => by
    rcases List.mem_cons.mp (I.stkSub _ z) with e | e
    · have lt := I.lt
      rw [← e] at lt
      exact Nat.lt_irrefl _ (Nat.lt_of_lt_of_le lt hf)
    · exact I.nofs hf e
  have clo := closure_ok (env := X.env) (scope := sc) (L.has I.ok)
  have bm := tb.bm.keeps I.bk
  have hd := tb.code.keeps I.bk
  refine PySem.W.kla_eval nodef ?_
  rcases hc : codeAmong pos ps.toList with _ | cv
  · refine PySem.W.kla_makeFunction clo I.ok.glob (I.mod.glob.keeps I.bk) hcode hd there ok hc tb.gP bm fun c2 ct h2 tk hx hge hlt hrec htb => ?_
    obtain ⟨c3, oc, vs, t, e2, hoc, hdat, hv⟩ := hrec
    cases e2
    have nC : H c2 = none := I.hok.fresh hge
    have far : s.heap.objs.size ≤ h2.objs.size := Nat.le_trans hge (Nat.le_of_lt hlt)
    have up : ∀ (b : Addr) (o : Obj), h2.get? b = some o → (h2.push (thkO X pr bd sc ((X.mg "__name__").getD .none) ct c2)).get? b = some o := fun b o e => Heap.get?_push_of_some _ e
    refine go h2.objs.size c2 ((X.mg "__name__").getD .none) ct _ _ (LamX.inv_table (t' := tk) (more := #[rawInt pos.line, rawInt pos.col, .ref c2]) I hP (fun b o hb e => up b o (hx b o hb e)) (up _ _ htb) hge ⟨oc, vs, t, up _ _ hoc, hdat, hv⟩)
      (same_code hu hP ok nC) (Heap.get?_push_size _ rfl) ?_ (out _ far) upd_same
    rw [upd_ne (Nat.ne_of_gt hlt), upd_ne (Nat.ne_of_gt (Nat.lt_of_lt_of_le (Heap.lt_size there) far))]
    exact I.hok.fresh far
  · obtain ⟨c2, rfl, known⟩ := tell pos cv hc
    exact PySem.W.kla_makeFunctionHit clo I.ok.glob (I.mod.glob.keeps I.bk) hcode hd there ok hc bm fun ct h2 tk hx far =>
      go h2.objs.size c2 ((X.mg "__name__").getD .none) ct H _ (I.kept (t' := tk) fun b o e => Heap.get?_push_of_some _ (hx b o e)) (Same.refl H) (Heap.get?_push_size _ rfl) (I.hok.fresh far) (out _ far) known
end

/-! ### what the def that is handed the thunk may do with it -/
abbrev TL := (D → Prop) → (Er → Prop) → Prop
def mThk (i : Nat) (f : Addr) (Hc : Hp) (tl : TL) : TM := fun δ Q E => δ[i]? = some (.v (.opq f Hc)) ∧ tl Q E
abbrev goCx (P : Program) (w : World) (K : PySem.W.Frag) (mg : Str → Option Value) (base : Heap) (Ng : List Str) (qg : Str) (sg : Scope) (g : Addr) (cdg : Value) (A : Around) (outer : List Env) (s : Shared) (H : Hp) (Eg : XK) (pn : List (Addr × Obj)) (xe : Value → Shared → Prop) : Cx :=
  (cxOf (L2.CX P w) P w K mg base Ng qg sg g cdg A outer s H Eg).tr pn xe
def ThkOk (P : Program) (w : World) (K : PySem.W.Frag) (mg : Str → Option Value) (base : Heap) (kb : Nat) (A : Around) (outer : List Env) (s : Shared) (H : Hp) (f : Addr) (Hc : Hp) (tl : TL) : Prop :=
  ∀ {Ng : List Str} {qg : Str} {sg : Scope} {g : Addr} {cdg : Value} {Eg : XK} {i : Nat} {a : Str} {pn : List (Addr × Obj)} {xe : Value → Shared → Prop} {W : WX} {p1 p2 : Pos}, Ng[i]? = some a → Vis sg a → (a == ("__debug__" : Str)) = false → (a == ("__classdict__" : Str)) = false →
    Room (kb + 1) (A.deeper (envOfC qg sg s.heap.objs.size g cdg)) → Takes (goCx P w K mg base Ng qg sg g cdg A outer s H Eg pn xe) W → DE (goCx P w K mg base Ng qg sg g cdg A outer s H Eg pn xe) W (.Call (.Name a p1) [] [] p2) false (mThk i f Hc tl)
/-- the maker's names as the thunk sees them -/
def demote (δ : List DV) : List DV := δ.map fun
  | .v d => .v d
  | _ => .u
section
variable {X : Cx} {pins : List (Addr × Obj)} {σ : L2.St} {H : Hp} {s : Shared}
theorem demote_get {δ : List DV} {i : Nat} {dv : DV} (h : (demote δ)[i]? = some dv) : dv = .u ∨ ∃ d, dv = .v d ∧ δ[i]? = some (.v d) := by
  unfold demote at h
  rw [List.getElem?_map] at h
  cases e : δ[i]? with
  | none => rw [e] at h; cases h
  | some x =>
    rw [e] at h
    cases x with
    | u => exact .inl (Option.some.inj h).symm
    | v d => exact .inr ⟨d, (Option.some.inj h).symm, rfl⟩
    | m d => exact .inl (Option.some.inj h).symm
    | s d => exact .inl (Option.some.inj h).symm
theorem env_thunk {K : PySem.W.Frag} {F : Fm} {own Lz : List Addr} {δ : List DV} {HZ : Hp} (E : EnvD K F own σ δ H) (g : Grow (sub H (F.ls0 ++ own)) (sub HZ Lz)) (tb : LamX.Tabs TabsC.T HZ) (tr : ∀ l, l ∈ Lz → ∃ o, HZ l = some o ∧ Plain o) : EnvD K ⟨Lz, HZ, sub HZ Lz⟩ [] σ (demote δ) HZ := by
  have e : Lz ++ [] = Lz := List.append_nil Lz
  have no : ∀ (i : Nat) (d : D), (demote δ)[i]? ≠ some (.s d) ∧ (demote δ)[i]? ≠ some (.m d) := fun i d => by
    constructor
    · intro z
      rcases demote_get z with q | ⟨_, q, _⟩ <;> cases q
    · intro z
      rcases demote_get z with q | ⟨_, q, _⟩ <;> cases q
  refine ⟨Same.refl HZ, by rw [e]; exact Grow.refl _, tb, fun l h => absurd h (by simp), fun l h => tr l (by rw [← e]; exact h), fun l h => absurd h (by simp), ?_, fun i dv h => ?_, fun i d a h => absurd h (no i d).1, fun i j di dj a h => absurd h (no i di).1, fun i j di dj a h => absurd h (no i di).2⟩
  · rw [E.len]; unfold demote; rw [List.length_map]
  · rcases demote_get h with rfl | ⟨d, rfl, q⟩
    · have hl : i < σ.length := by
        have := (List.getElem?_eq_some_iff.mp h).1
        unfold demote at this
        rw [List.length_map] at this
        rw [E.len]; exact this
      exact ⟨_, List.getElem?_eq_getElem hl, trivial⟩
    · obtain ⟨s1, e1, x, rfl, r⟩ := E.slot i _ q
      exact ⟨_, e1, x, rfl, by rw [e]; exact r.mono g⟩
/-- the thunk that was made at s may be called by whom it is handed to -/
theorem thk_ok {F : Fm} {own : List Addr} {δ : List DV} {sc : Scope} {pr : Arguments} {bd : Expr} {f c2 : Addr} {pm ct : Value} {kb : Nat} {mb : TM} (I : Inv X pins σ H s) (EV : EnvD X.K F own σ δ H) (L : LamX.LamS X.env.scope sc)
    (hf : s.heap.get? f = some (thkO X pr bd sc pm ct c2)) (fN : H f = none) (fO : f ∉ frs X.stack) (hco : sub H (F.ls0 ++ own) c2 = some (LamX.CodeO c2 (lamQ X)))
    (nob : bindArgs (PySem.W.kla_fn "<lambda>" (lamQ X) pr bd sc (cloFrom X.env.cells sc.names []) pm (.ref c2) ct) ⟨[], []⟩ = pure [])
    (body : ∀ (A : Around) (outer : List Env) (s : Shared) (H : Hp) (E : XK), GdOk A X.base → Room kb (A.deeper (LamX.lamEnv X sc s.heap.objs.size f c2)) → DE (LamX.lamCx X A outer s H E sc f c2) (Wof E) bd false mb) (hG : GdOk X.A X.base) :
    ThkOk X.prog X.w X.K X.mg X.base kb X.A X.stack s H f (sub H (F.ls0 ++ own)) fun Q E => mb (demote δ) Q E := by
  intro Ng qg sg g cdg Eg i a pn xe W p1 p2 hN hv hdb hcd hr tk
  refine ⟨fun pinsZ sZ σZ HZ Q IZ ⟨F2, own2, δ2, P, EK, AZ, ⟨hd, mm⟩, q⟩ => ?_⟩
  obtain ⟨sv, at_i, x, rfl, rx⟩ := AZ.env.slot i _ hd
  cases rx with
  | opq gr =>
  have cZ : HZ c2 = some (LamX.CodeO c2 (lamQ X)) := sub_le _ _ (gr _ _ hco rfl) rfl
  refine wpAny_Call_Name_kw (thn ((pe_var (pos := p1) (i := i) hN hv hdb hcd).run pinsZ sZ σZ HZ (fun v H1 => v = .ref f ∧ H1 = HZ) IZ ⟨.ref f, at_i, rfl, rfl⟩) fun u s1 ⟨v, H1, I1, rel, ev, eH⟩ => ?_)
  subst ev eH
  obtain rfl : u = Value.ref f := rel
  have f1 : s1.heap.get? f = some (thkO X pr bd sc pm ct c2) := I1.base.keep f _ hf fN fO fun z => nomatch (show f ∈ ([] : List Addr) from z)
  refine PySem.W.callWith_F0 ⟨_, _, _, _, f1⟩ ?_
  obtain ⟨⟨oc, vs, t, hoc, hdat, hvs⟩, _, _⟩ := I1.hok c2 _ cZ
  have inner : codeAny (model X.prog X.w) (X.A.deeper (envOfC qg sg s.heap.objs.size g cdg)) (.call (.ref f) ⟨[], []⟩) (CR (L2.CX X.prog X.w) (envOfC qg sg s.heap.objs.size g cdg :: X.stack) X.prog X.w H1 s1 Q fun cls dd H' => W cls dd σZ H') s1 := by
    refine PySem.W.kla_callFunE hr.depth f1 rfl L.co L.gen rfl ⟨c2, oc, vs, t, rfl, hoc, hdat, hvs⟩ ?_
    rw [nob]
    refine wpAny_pure (wpAny_newFunctionEnv (fun y hy => (L.own y hy).2) (fun y hy => absurd hy (by simp)) (fun h2 hns hsb => ⟨I1.nolimit.fresh _ hsb, ?_⟩) L.kind)
    have keep : ∀ b o, s1.heap.get? b = some o → h2.get? b = some o := fun b o e => hsb.extBut b o (Nat.ne_of_lt (Heap.lt_size e)) (Heap.get?_push_of_some _ e)
    have J : Inv (LamX.lamCx X (X.A.deeper (envOfC qg sg s.heap.objs.size g cdg)) (envOfC qg sg s.heap.objs.size g cdg :: X.stack) s1 H1 (fun cls dd H' => W cls dd σZ H') sc f c2) [] σ H1 { s1 with heap := h2, toks := s1.toks + ([] : List (Str × Value)).length } :=
      LamX.lam_start2 I L I1.env0 hr.hd I1.base hns keep
    have eL : (F2.ls0 ++ own2) ++ [] = F2.ls0 ++ own2 := List.append_nil _
    refine PySem.W.kla_codeExpr (wpAny_mono ((body (X.A.deeper (envOfC qg sg s.heap.objs.size g cdg)) (envOfC qg sg s.heap.objs.size g cdg :: X.stack) s1 H1 (fun cls dd H' => W cls dd σZ H') hG (hr.deeper _)).run [] _ _ H1 Q J ⟨⟨F2.ls0 ++ own2, H1, sub H1 (F2.ls0 ++ own2)⟩, [], demote δ, P, EK, ⟨env_thunk EV gr AZ.env.tabs AZ.env.trk, fun er cls dd H' ke s2 r2 => AZ.pass er cls dd H' ke s2 (by rw [← eL]; exact r2)⟩, mm,
      fun d v H' pd s2 r2 => q d v H' pd s2 (.cl (by have r3 := r2.clean; rw [eL] at r3; exact r3))⟩) (fun v s' hq => ?_) fun e s' hq => hq)
    obtain ⟨v', H', J', rv, q'⟩ := hq
    exact ⟨v', H', J'.os, J'.bare, J'.base, J'.hok, rv, q'⟩
  refine wpAny_call (codeAny_mono inner fun r s' hq => ?_)
  match r, hq with
  | .error e, hq => exact tk e s' (XE.of_call I1 (fun cls dd H' h => h) hq)
  | .ok (.ret u), hq => exact I1.after hq
/-- a def that is handed one thunk -/
def FnT (P : Program) (w : World) (K : PySem.W.Frag) (mg : Str → Option Value) (base : Heap) (kb k : Nat) (g : Addr) (M : TL → TL) : Prop :=
  ∀ (f : Addr) (Hc : Hp) (tl : TL) (A : Around) (outer : List Env) (s : Shared) (H : Hp) (Q : VK) (E : XK), GdOk A base → Room k A → Env0 P w K mg base A outer s H → ThkOk P w K mg base kb A outer s H f Hc tl → spD K (fun ds Q E => ds = [.opq f Hc] ∧ M tl Q E) [.ref f] H Q E →
    codeAny (model P w) A (.call (.ref g) ⟨[.ref f], []⟩) (CR (L2.CX P w) outer P w H s Q E) s
theorem FnT.imp {P : Program} {w : World} {K : PySem.W.Frag} {mg : Str → Option Value} {base : Heap} {kb k : Nat} {g : Addr} {M M' : TL → TL} (F : FnT P w K mg base kb k g M) (h : ∀ tl Q E, M' tl Q E → M tl Q E) : FnT P w K mg base kb k g M' :=
  fun f Hc tl A outer s H Q E hG hr e0 ok ⟨fo, ds, P, EK, t, tb, rs, ⟨e, m⟩, q⟩ => F f Hc tl A outer s H Q E hG hr e0 ok ⟨fo, ds, P, EK, t, tb, rs, ⟨e, h _ _ _ m⟩, q⟩
def mThunk (M : TL → TL) (mb : TM) : TM := fun δ Q E => M (fun Q' E' => mb (demote δ) Q' E') Q E
theorem de_thunk {W : WX} {x : Str} {g c P : Addr} {kb k : Nat} {M : TL → TL} {mb : TM} {sc : Scope} {pr : Arguments} {bd : Expr} {p lp pos : Pos} (G : FnT X.prog X.w X.K X.mg X.base kb k g M) (hG : GdOk X.A X.base) (hr : Room k X.A) (tk : Takes X W) (hg : Gl X x) (hm : X.mg x = some (.ref g)) (hk : PySem.W.keepIn X.K (.ref g) = true)
    (tb : LamX.TabB X.base X.mg c P) (hcode : X.env.code = .ref c) (hq : (P, lamQ X) ∈ TabsC.T) (hu : ∀ p ∈ TabsC.T, p.1 = P → p.2 = lamQ X) (L : LamX.LamS X.env.scope sc)
    (body : ∀ (A : Around) (outer : List Env) (s : Shared) (H : Hp) (E : XK) (f c2 : Addr), GdOk A X.base → Room kb (A.deeper (LamX.lamEnv X sc s.heap.objs.size f c2)) → DE (LamX.lamCx X A outer s H E sc f c2) (Wof E) bd false mb)
    (nodef : defaultsOf pr X.env = ([], []) := by rfl) (nob : ∀ (q : Str) (cl : List (Str × Addr)) (pm cv ct : Value), bindArgs (PySem.W.kla_fn "<lambda>" q pr bd sc cl pm cv ct) ⟨[], []⟩ = pure [] := by intros; rfl) (hdb : (x == ("__debug__" : Str)) = false := by decide) :
    DE X W (.Call (.Name x p) [.Lambda pr bd sc lp] [] pos) false (mThunk M mb) := by
  refine ⟨fun pins s σ H Q I ⟨FF, own, δ, PQ, EK, A, mm, q⟩ => ?_⟩
  refine wpAny_Call_Name_kw (ld_glob I hg hm ?_ hdb)
  refine PySem.W.callWith_K (h₀ := X.base) I.ok.mod.kin hk ?_ (by rfl) (by rfl)
  show wpAny _ _ (spliced ((false, eval (.Lambda pr bd sc lp) X.env) :: backTo pos (starEach [] X.env))) _ _ s
  refine Calls.spliced_cons (lam_new I tb hcode hq hu A.env.tabs nodef L fun f c2 pm ct H1 s1 I1 s01 hf fN fO hco => ?_)
  refine Calls.spliced_nil ⟨I1.kIn, ?_⟩
  have A1 := A.on s01
  have nin : c2 ∉ FF.ls0 ++ own := fun z => by
    obtain ⟨o, e, n⟩ := A1.env.trk c2 z
    rw [hco] at e
    cases e
    exact n.2 c2 (lamQ X) rfl
  refine wpAny_call (codeAny_mono (G f (sub H1 (FF.ls0 ++ own)) (fun Q' E' => mb (demote δ) Q' E') X.A X.stack s1 H1 Q (fun cls dd H' => W cls dd σ H') hG hr I1.env0 (thk_ok I1 A1.env L hf fN fO (by rw [sub_out nin]; exact hco) (nob _ _ _ _ _) (fun A outer s H E h1 h2 => body A outer s H E f c2 h1 h2) hG)
    ⟨FF.ls0 ++ own, [.opq f (sub H1 (FF.ls0 ++ own))], PQ, EK, A1.env.trk, A1.tabs, .cons (.opq (Grow.refl _)) .nil, ⟨rfl, mm⟩, fun d v H' pd s2 r2 => q d v H' pd (s01.trans s2) (.cl r2), fun er cls dd H' ke s2 r2 => A1.pass er cls dd H' ke s2 r2⟩) fun r s' hq => ?_)
  match r, hq with
  | .error e, hq => exact tk e s' (XE.of_call I1 (fun cls dd H' h => h) hq)
  | .ok (.ret u), hq => exact I1.after hq
end
section
variable {P : Program} {w : World} {K : PySem.W.Frag} {mg : Str → Option Value} {base : Heap}
/-- the body of such a def -/
theorem fnT_of {x qual a : Str} {st : Stmt} {g : Addr} {fd : FuncData} {N : List Str} {kb : Nat} {m : Addr → Hp → TL → SM} (F : Fun K x qual st g fd) (S : FnScope N [a] (defScope st)) (hb : Binds K fd [a] [])
    (body : ∀ (cdv : Value) (A : Around) (outer : List Env) (s : Shared) (H : Hp) (E : XK) (f : Addr) (Hc : Hp) (tl : TL), GdOk A base → Room (kb + 1) (A.deeper (envOfC qual (defScope st) s.heap.objs.size g cdv)) → ThkOk P w K mg base kb A outer s H f Hc tl →
      DSs (cxOf (L2.CX P w) P w K mg base N qual (defScope st) g cdv A outer s H E) (Wof E) (defBody st) (m f Hc tl)) : FnT P w K mg base kb (kb + 2) g fun tl Q E => ∀ f Hc, mFun 1 N.length (m f Hc tl) [.opq f Hc] Q E := by
  obtain ⟨oc, od, kV, doc, pm, an, cdv, ct, osl, rfl, lk, hcd⟩ := F.ex
  intro f Hc tl A outer s H Q E hG hr e0 ok sp
  have KX : K.In s.heap := e0.mod.kin.keeps fun b o e => (e0.bs b o e).1
  refine LamX.run_ofS (N := N) (ps := [a]) (us := [.ref f]) (vs := [.ref f]) lk hcd S hr e0 (by have := hb s [.ref f] KX rfl; rw [List.append_nil] at this; exact this) (.cons rfl .nil) rfl fun hr2 => ?_
  obtain ⟨fo, ds, PQ, EK, ht, tb, rs, ⟨rfl, hm⟩, hq, he⟩ := sp
  obtain ⟨_, hm⟩ := hm f Hc
  exact ⟨_, body cdv A outer s H E f Hc tl hG hr2 ok, ⟨fo, H, sub H fo⟩, [], _, _, env_start ht tb rs, hm, links_end (cx := cxOf (L2.CX P w) P w K mg base N qual (defScope st) g cdv A outer s H E) hq he⟩
end

/-! ### defs whose code object is known; the end of a law that makes lambdas -/
section
variable {P : Program} {w : World} {K : PySem.W.Frag} {mg : Str → Option Value} {base : Heap}
theorem fnD_ofC {x qual : Str} {st : Stmt} {f c : Addr} {fd : FuncData} {N ps : List Str} {k : Nat} {m : SM} (F : Fun K x qual st f fd) (hcode : fd.code = .ref c) (S : FnScope N ps (defScope st)) (hb : Binds K fd ps [])
    (body : ∀ (A : Around) (outer : List Env) (s : Shared) (H : Hp) (E : XK), GdOk A base → Room k (A.deeper (envOfC qual (defScope st) s.heap.objs.size f (.ref c))) →
      DSs (cxOf (L2.CX P w) P w K mg base N qual (defScope st) f (.ref c) A outer s H E) (Wof E) (defBody st) m) : FnD P w K mg base (k + 1) f (mFun ps.length N.length m) := by
  obtain ⟨oc, od, kV, doc, pm, an, cdv, ct, osl, rfl, lk, hcd⟩ := F.ex
  obtain rfl : cdv = .ref c := hcode
  intro A outer s H us vs Q E hG hr e0 rv sp
  have KX : K.In s.heap := e0.mod.kin.keeps fun b o e => (e0.bs b o e).1
  obtain ⟨fo, ds, PQ, EK, ht, tb, rs, ⟨hl, hm⟩, hq, he⟩ := sp
  have e1 : vs.length = ps.length := by rw [rs.length]; exact hl
  refine LamX.run_ofS (N := N) (ps := ps) (us := us) (vs := vs) lk hcd S hr e0 (by have := hb s us KX (by rw [List.append_nil, ← rv.length]; exact e1); rw [List.append_nil] at this; exact this) rv e1 fun hr2 => ?_
  exact ⟨_, body A outer s H E hG hr2, ⟨fo, H, sub H fo⟩, [], _, _, env_start ht tb rs, hm, links_end (cx := cxOf (L2.CX P w) P w K mg base N qual (defScope st) f (.ref c) A outer s H E) hq he⟩
end
abbrev noTab : Obj := PySem.W.tabObj #[]
section
variable {P : Program} {w : World} {K : PySem.W.Frag} {mg mb : Str → Option Value} {k : Nat} {fa a : Addr} {m : FM} {s1 : Shared} {vs : List Value} {ns : List Int} {cs : List (Addr × Addr)}
/-- what a heap tracks where a law begins: the script, the empty tables -/
def Begin (cs : List (Addr × Addr)) (a : Addr) (H : Hp) : Prop := ∀ b, H b = none ∨ (H b = some (.tbl #[]) ∧ b ∈ cs.map (·.2)) ∨ (b = a ∧ ∃ o xs, H b = some (.frz o (.lst xs)))
theorem law_coreT (KX : K.In s1.heap) (hns : s1.heap.Ns mainGlobals mg) (hb : s1.heap.Ns builtinsNs mb) (hbb : ∀ x : Str, x ≠ "__name__" → mb x = bootBuiltins x) (hlim : s1.heap.NoLimit) (hg : s1.gens = #[]) (hSM : ∃ mm, s1.heap.Ns sysModules mm)
    (hTs : ∀ p ∈ TabsC.T, p.1 ∈ cs.map (·.2)) (empty : ∀ p ∈ cs, s1.heap.get? p.2 = some noTab) (nT : ∀ p ∈ cs, K.lookup p.2 = none) (heads : ∀ p ∈ cs, PySem.W.CodeHd s1.heap p.1 p.2)
    (hbm : ∃ (bm : Addr) (ob : Obj), mg "__builtins__" = some (.ref bm) ∧ bm ≠ builtinsNs ∧ s1.heap.get? bm = some ob ∧ ob.cls = .type "module" ∧ ob.dict = some builtinsNs ∧ ob.data = .plain)
    (ha : s1.heap.get? a = some { cls := .type "list", data := .seq vs.toArray }) (hr : Room k callerA) (F : ∀ base : Heap, K.In base → base.Ns mainGlobals mg → (∀ p ∈ cs, LamX.TabB base mg p.1 p.2) → FnD P w K mg base k fa m)
    (hm : LawTrue m) (hl : ns.length ≤ 63) (H : Hp) (hO : Begin cs a H) (hTb : ∀ b ∈ cs.map (·.2), H b = some (.tbl #[])) (hS : SqL K H a (ns.map V.int)) (hok : HOk P w H s1.heap) (hK : a ∉ cs.map (·.2) → H a ≠ none → K.lookup a = none) :
    codeAny (model P w) callerA (.call (.ref fa) ⟨[.ref a], []⟩) (fun r s' => r = .ok (.ret (.bool true)) ∧ OldK s1.heap s'.heap ∧ s'.os = s1.os ∧ AllBare s'.gens) s1 := by
  have tabAt : ∀ b, b ∈ cs.map (·.2) → s1.heap.get? b = some noTab ∧ K.lookup b = none := fun b hb => by
    obtain ⟨p, hp, e⟩ := List.mem_map.mp hb
    rw [← e]
    exact ⟨empty p hp, nT p hp⟩
  have apart : a ∉ cs.map (·.2) := fun z => by
    have q := (tabAt a z).1
    rw [ha] at q
    cases q
  -- what is neither the script nor an empty table is not tracked
  have free : ∀ {b : Addr} {o : Obj}, s1.heap.get? b = some o → (∀ ys n, o.data ≠ .seq ys n) → o.data ≠ .fields #[] → H b = none := fun {b o} e n1 n2 => by
    rcases hO b with z | ⟨_, z⟩ | ⟨z, _⟩
    · exact z
    · rw [(tabAt b z).1] at e; cases e; exact absurd rfl n2
    · rw [z, ha] at e; cases e; exact absurd rfl (n1 _ _)
  have dictK : ∀ {b : Addr} {mm : Str → Option Value}, s1.heap.Ns b mm → (hidT s1.heap H).Ns b mm := fun {b mm} hN => by
    obtain ⟨o, es, ep, e, d, r⟩ := hN
    exact ⟨o, es, ep, hidT_get e (free e (fun ys n z => by rw [d] at z; cases z) (fun z => by rw [d] at z; cases z)), d, r⟩
  have hKb : K.In (hidT s1.heap H) := fun b o e => hidT_get (KX b o e) (by
    rcases hO b with z | ⟨_, z⟩ | ⟨z, o2, xs, z2⟩
    · exact z
    · rw [(tabAt b z).2] at e; cases e
    · rw [z] at e z2
      rw [hK apart (by rw [z2]; simp)] at e; cases e)
  have tabs : ∀ p ∈ cs, LamX.TabB (hidT s1.heap H) mg p.1 p.2 := fun p hp => by
    refine ⟨?_, ?_, fun z => ?_⟩
    · obtain ⟨o, us, file, tf, flags, tg, inF, text, tt, e1, r1, r2, r3, rest⟩ := heads p hp
      refine ⟨o, us, file, tf, flags, tg, inF, text, tt, hidT_get e1 (free e1 (fun ys n z => by rw [r2] at z; cases z) fun z => ?_), r1, r2, r3, rest⟩
      rw [r2] at z
      cases z
      simp at r3
    · obtain ⟨bm, ob, b1, b2, b3, b4, b5, b6⟩ := hbm
      refine ⟨bm, ob, b1, b2, fun q => ?_, fun q => ?_, hidT_get b3 (free b3 (fun ys n z => by rw [b6] at z; cases z) fun z => by rw [b6] at z; cases z), b4, b5, b6⟩
      · obtain ⟨o, es, ep, e, hd, _⟩ := hns
        rw [q, e] at b3
        cases b3
        rw [hd] at b6
        cases b6
      · rw [q, empty p hp] at b3
        cases b3
        cases b6
    · obtain ⟨o, es, ep, e, hd, _⟩ := hns
      rw [z, empty p hp] at e
      cases e
      cases hd
  obtain ⟨mc, l1, l2⟩ := hlim
  have env : Env0 P w K mg (hidT s1.heap H) callerA [] s1 H :=
    ⟨rfl, ⟨hKb, dictK hns, ⟨mb, dictK hb, hbb⟩, mc, dictK l1, l2⟩, fun b o e => of_hidT e, Nat.le_of_eq (hidT_size _ _), trivial, fun b hb => absurd hb (by simp [frs]), hok, .of_eq hg⟩
  have sp : spD K m [.ref a] H (fun v _ => v = .bl true) (fun _ _ _ => False) :=
    ⟨[], [.script ns], _, NoE, fun l h => absurd h (by simp), fun p hp => LamX.TabS.nil (hTb _ (hTs p hp)), .cons (.script (by rw [show sub H [] = H from funext fun b => if_neg (by simp)]; exact hS) (Nat.le_trans hl (by rw [sizeLine_eq]; decide))) .nil, hm ns hl, fun d v H' e _ r => by
      subst e
      cases r
      rfl, fun _ _ _ _ e => e.elim⟩
  refine codeAny_mono ((F _ hKb (dictK hns) tabs) callerA [] s1 H [.ref a] [.ref a] _ _ ⟨rfl, let ⟨mm, hm⟩ := hSM; ⟨mm, dictK hm⟩⟩ hr env (.cons rfl .nil) sp) fun r s' h => ?_
  match r, h with
  | .error e, h =>
    obtain ⟨_, _, _, _, _, _, _, _, _, _, _, _, z⟩ := h
    exact z.elim
  | .ok (.ret u), h =>
    obtain ⟨v, H', hos, hbare, hun, hok', hrel, hv⟩ := h
    have ev : v = .bl true := hv
    rw [ev] at hrel
    have eu : u = Value.bool true := hrel
    rw [eu]
    have same : ∀ b o, b ∉ cs.map (·.2) → s1.heap.get? b = some o → s'.heap.get? b = some o := fun b o nb e => by
      rcases hO b with z | ⟨_, z⟩ | ⟨_, ob, xs, z⟩
      · exact hun.keep b o e z (by simp [frs]) (by simp)
      · exact absurd z nb
      · have g1 := (hok b _ z).1
        have g2 := (hok' b _ (hun.frzs b ob _ z)).1
        rw [e] at g1
        cases g1
        exact g2
    have grown : ∀ b, b ∈ cs.map (·.2) → ∃ more : Array Value, s'.heap.get? b = some (PySem.W.tabObj more) := fun b hb => by
      obtain ⟨more, z⟩ := hun.tbls b #[] (hTb b hb)
      exact ⟨_, hok' b _ z⟩
    refine ⟨rfl, ⟨fun b o e => ?_, fun b o e => ?_⟩, hos, hbare⟩
    · by_cases hb : b ∈ cs.map (·.2)
      · obtain ⟨p, hp, ep⟩ := List.mem_map.mp hb
        obtain ⟨more, g⟩ := grown b hb
        rw [(tabAt b hb).1] at e
        cases e
        exact .inr (.inl ⟨by rw [← ep]; exact ((heads p hp).tab (empty p hp)).isCodeTable, rfl, #[], more, rfl, by rw [Array.empty_append]; exact g⟩)
      · exact .inl (same b o hb e)
    · by_cases hb : b ∈ cs.map (·.2)
      · obtain ⟨more, g⟩ := grown b hb
        exact ⟨_, g⟩
      · exact ⟨o, same b o hb e⟩
theorem law_callT (KX : K.In s1.heap) (hns : s1.heap.Ns mainGlobals mg) (hb : s1.heap.Ns builtinsNs mb) (hbb : ∀ x : Str, x ≠ "__name__" → mb x = bootBuiltins x) (hlim : s1.heap.NoLimit) (hg : s1.gens = #[]) (hSM : ∃ mm, s1.heap.Ns sysModules mm)
    (hTs : ∀ p ∈ TabsC.T, p.1 ∈ cs.map (·.2)) (empty : ∀ p ∈ cs, s1.heap.get? p.2 = some noTab) (nT : ∀ p ∈ cs, K.lookup p.2 = none) (heads : ∀ p ∈ cs, PySem.W.CodeHd s1.heap p.1 p.2)
    (hbm : ∃ (bm : Addr) (ob : Obj), mg "__builtins__" = some (.ref bm) ∧ bm ≠ builtinsNs ∧ s1.heap.get? bm = some ob ∧ ob.cls = .type "module" ∧ ob.dict = some builtinsNs ∧ ob.data = .plain)
    (ha : s1.heap.get? a = some { cls := .type "list", data := .seq vs.toArray }) (hi : IntsAre vs ns) (hr : Room k callerA) (F : ∀ base : Heap, K.In base → base.Ns mainGlobals mg → (∀ p ∈ cs, LamX.TabB base mg p.1 p.2) → FnD P w K mg base k fa m)
    (hm : LawTrue m) (hl : ns.length ≤ 63) :
    codeAny (model P w) callerA (.call (.ref fa) ⟨[.ref a], []⟩) (fun r s' => r = .ok (.ret (.bool true)) ∧ OldK s1.heap s'.heap ∧ s'.os = s1.os ∧ AllBare s'.gens) s1 := by
  have hz : ns.length ≤ sizeLine := Nat.le_trans hl (by rw [sizeLine_eq]; decide)
  have there : ∀ b, b ∈ cs.map (·.2) → s1.heap.get? b = some noTab := fun b hb => by
    obtain ⟨p, hp, e⟩ := List.mem_map.mp hb
    rw [← e]; exact empty p hp
  have apart : a ∉ cs.map (·.2) := fun z => by
    have q := there a z
    rw [ha] at q; cases q
  let tabs : Hp := fun b => if b ∈ cs.map (·.2) then some (.tbl #[]) else none
  have tIn : ∀ {b : Addr}, b ∈ cs.map (·.2) → tabs b = some (.tbl #[]) := fun h => if_pos h
  have tOut : ∀ {b : Addr}, b ∉ cs.map (·.2) → tabs b = none := fun h => if_neg h
  have tCase : ∀ b, tabs b = none ∨ (tabs b = some (.tbl #[]) ∧ b ∈ cs.map (·.2)) := fun b => by
    by_cases e : b ∈ cs.map (·.2)
    · exact .inr ⟨tIn e, e⟩
    · exact .inl (tOut e)
  cases hk : K.lookup a with
  | some o =>
    have e := KX a o hk
    rw [ha] at e
    cases e
    refine law_coreT KX hns hb hbb hlim hg hSM hTs empty nT heads hbm ha hr F hm hl tabs (fun b => (tCase b).imp id .inl) (fun b => tIn) (.inr ⟨_, vs.toArray, _, hk, rfl, rfl, rfl, (by rw [List.size_toArray, hi.length]; exact hz), by simpa using vals_of_ints hi⟩) (fun b u z => ?_) fun n z => absurd (tOut n) z
    rcases tCase b with q | ⟨q, hb⟩
    · rw [q] at z; cases z
    · rw [q] at z; cases z; exact there b hb
  | none =>
    let HH : Hp := fun b => if b = a then some (HO.frz { cls := .type "list", data := .seq vs.toArray } (.lst (ns.map V.int))) else tabs b
    have atA : HH a = some (HO.frz { cls := .type "list", data := .seq vs.toArray } (.lst (ns.map V.int))) := if_pos rfl
    have off : ∀ {b : Addr}, b ≠ a → HH b = tabs b := fun h => if_neg h
    refine law_coreT KX hns hb hbb hlim hg hSM hTs empty nT heads hbm ha hr F hm hl HH (fun b => ?_) (fun b hb => by rw [off fun z => apart (z ▸ hb)]; exact tIn hb) (.inl (.inr ⟨_, atA⟩)) (fun b u z => ?_) fun _ _ => hk
    · by_cases e : b = a
      · exact .inr (.inr ⟨e, _, _, by rw [e]; exact atA⟩)
      · rw [off e]; exact (tCase b).imp id .inl
    · by_cases e : b = a
      · rw [e, atA] at z
        cases z
        rw [e]
        exact ⟨ha, (by rw [List.length_map]; exact hz), vs, _, vals_of_ints hi, ha⟩
      · rw [off e] at z
        rcases tCase b with q | ⟨q, hb⟩
        · rw [q] at z; cases z
        · rw [q] at z; cases z; exact there b hb
end
/-- what is known of a def that makes lambdas: its code object, the table -/
structure LamAt (K : PySem.W.Frag) (mg : Str → Option Value) (q : Program) (d : Str) (fc : Addr) (c P : Addr) : Prop where
  g : mg d = some (.ref fc)
  top : ((recsOf q).any fun e => e.name == d) = true
  fn : ∃ o fd, K.lookup fc = some o ∧ o.data = .func fd ∧ fd.code = .ref c
  cd : ∃ e dd vs sl, K.lookup c = some ⟨e, dd, .fields vs, sl⟩ ∧ vs[11]? = some (.ref P)
  no : K.lookup P = none
/-- the goal that the head leaves, lambdas made -/
theorem walkDT {l : PySem.W.OpenLaw} {k : Nat} {q : Program} {loose : List Str} {XP : (Str → Option Value) → Heap → Prop} {YP : World → Heap → Prop} {d : DefRec} {K : Params → PySem.W.Frag} {m : FM} (hI : importsNone q = true) (hn : l.most = some 63) (hdf : d.params.defaults = []) (hr : Room k callerA)
    (hY : ∀ (w : World) (h : Heap), YP w h → (K w.params).In h) (hm : LawTrue m)
    (F : ∀ (w : World) (mg : Str → Option Value) (fa : Addr) (h : Heap), (K w.params).In h → h.Ns mainGlobals mg → mg d.name = some (.ref fa) →
      ∃ cs : List (Addr × Addr), (∀ p ∈ TabsC.T, p.1 ∈ cs.map (·.2)) ∧ (∀ p ∈ cs, ∃ dn fc, LamAt (K w.params) mg q dn fc p.1 p.2) ∧ ∀ base : Heap, (K w.params).In base → base.Ns mainGlobals mg → (∀ p ∈ cs, LamX.TabB base mg p.1 p.2) → FnD l.prog w (K w.params) mg base k fa m) :
    PySem.W.WalkO q loose XP YP l.row.toRowW d [] (fun f vs => PySem.call f vs) := by
  refine Att.attach_call hn hdf fun w s0 s1 mg mb fa o pm cd doc a vs ns G Y ho hd hcd hmg hobj hints hlen hg => ?_
  obtain ⟨mm, hmm, _⟩ := (G.T.seer hI).mods
  have KX := hY w _ Y
  obtain ⟨cs, hTs, hcs, hF⟩ := F w mg fa _ KX G.T.g hmg
  have tab : ∀ p ∈ cs, s1.heap.get? p.2 = some noTab ∧ (K w.params).lookup p.2 = none ∧ PySem.W.CodeHd s1.heap p.1 p.2 := fun p hp => by
    obtain ⟨dn, fc, g, rec, ⟨o1, fd1, k1, k2, k3⟩, ⟨e4, dd4, vs4, sl4, k4, k5⟩, k6⟩ := hcs p hp
    obtain ⟨dL, hmem, hname⟩ := List.any_eq_true.mp rec
    obtain ⟨a', o', fd', c', P', h1, h2, h3, h4, h5, h6⟩ := G.T.tab dL hmem
    rw [beq_iff_eq.mp hname, g] at h1
    cases h1
    rw [KX _ _ k1] at h2
    cases h2
    rw [k2] at h3
    cases h3
    rw [k3] at h4
    cases h4
    have h6' := h6
    obtain ⟨⟨oc, vc, e1, _, e3, e4'⟩, hP⟩ := h6
    rw [KX _ _ k4] at e1
    cases e1
    cases e3
    rw [k5] at e4'
    cases e4'
    exact ⟨hP, k6, .of h5 h6'⟩
  exact law_callT KX G.T.g G.T.b G.T.builtins G.T.nolimit hg ⟨mm, hmm⟩ hTs (fun p hp => (tab p hp).1) (fun p hp => (tab p hp).2.1) (fun p hp => (tab p hp).2.2) G.T.bmain hobj hints hr hF hm hlen
end DL
namespace DL
theorem tabs_u {T : List (PySem.Addr × PySem.Str)} (nd : (T.map (·.1)).Nodup) {p : PySem.Addr × PySem.Str} (hm : p ∈ T) : ∀ r ∈ T, r.1 = p.1 → r.2 = p.2 := by
  intro r hr e
  induction T with
  | nil => cases hm
  | cons x xs ih =>
    rw [List.map_cons, List.nodup_cons] at nd
    rcases List.mem_cons.mp hm with rfl | hm' <;> rcases List.mem_cons.mp hr with rfl | hr'
    · rfl
    · exact absurd (List.mem_map.mpr ⟨r, hr', e⟩) nd.1
    · exact absurd (List.mem_map.mpr ⟨p, hm', e.symm⟩) nd.1
    · exact ih nd.2 hm' hr'
theorem e_dm0 : demote [] = [] := rfl
theorem e_dmv (d : D) (r : List DV) : demote (.v d :: r) = .v d :: demote r := rfl
theorem e_dmu (r : List DV) : demote (.u :: r) = .u :: demote r := rfl
theorem e_dmm (d : D) (r : List DV) : demote (.m d :: r) = .u :: demote r := rfl
theorem e_dms (d : D) (r : List DV) : demote (.s d :: r) = .u :: demote r := rfl
end DL

set_option Elab.async false
set_option linter.all false
set_option maxRecDepth 100000
set_option maxHeartbeats 4000000
/-! DL44: xs[i] = e of a list of one's own; a def by its name; calls of a name that holds a def. -/
namespace DL
open PySem PySem.Spec PyProof.Rows L2
variable [TabsC]
theorem Reps.set {K : PySem.W.Frag} {H : Hp} {v : V} {d : D} (h : Rep K H v d) : ∀ {vs : List V} {ds : List D} (j : Nat), Reps K H vs ds → Reps K H (vs.set j v) (ds.set j d)
  | _, _, _, .nil => .nil
  | _, _, 0, .cons _ t => .cons h t
  | _, _, j + 1, .cons r t => .cons r (Reps.set h j t)
section
variable {X : Cx} {W : WX} {a b c e e2 o : Expr} {es : List Expr} {ba bb : Bool} {ma mb mc mk : TM} {la : LM} {pos p p2 pos2 : Pos} {x y : Str} {k : Nat}
def sPutL (i : Nat) (mk mv : TM) : SM := fun δ κ => mv δ (fun v => ∃ ds, δ[i]? = some (.m (.list ds)) ∧ mk δ (fun kd => ∃ (z : Int) (j : Nat), kd = .int z ∧ ixN ds.length z = some j ∧ κ.nx (δ.set i (.m (.list (ds.set j v))))) (κ.er δ)) (κ.er δ)
theorem ds_putL (i : Nat) {ie : Expr} {p1 : Pos} (ho : PE X (.Name x p) (tVar i)) (hi : DE X W ie bb mk) (hv : DE X W e false ma) (hs : swapsWithSole [.Subscript (.Name x p) ie p1] e pos.line X.env = pure false := by rfl) (hw : swappedStores [.Subscript (.Name x p) ie p1] e X.env = pure none := by rfl)
    (h1 : (assignEach [.Subscript (.Name x p) ie p1] X.env).map (·.2) = [assign (.Subscript (.Name x p) ie p1) X.env] := by rfl)
    (ha : ∀ v, assign (.Subscript (.Name x p) ie p1) X.env v = (do
      let ov ← holding [v] (eval (.Name x p) X.env)
      let iv ← holding [v, ov] (eval ie X.env)
      standAt p1
      holding [v, ov, iv] (setItem ov iv v)
      release [v, ov, iv] []) := by intro _; rfl) :
    DS X W (.Assign [.Subscript (.Name x p) ie p1] e pos) (sPutL i mk ma) :=
  PS.imp (ps_asg hv (pg_sub ho hi set_list ha) hs hw h1) fun D σ H ⟨F, own, δ, κ, E, h, L⟩ => by
    refine ⟨F, own, δ, _, _, L.at E, h, fun d v H1 ⟨ds, hd, m1⟩ s1 r1 => ?_⟩
    have E1 := E.grow s1
    obtain ⟨a, xs, e1, ha, h1, h2, h3⟩ := mut_list E1 hd
    refine ⟨_, e1, F, own, δ, _, _, (L.at E).on s1, m1, fun kd kv H2 ⟨z, j, ek, hj, m2⟩ s2 r2 => ?_⟩
    subst ek
    have ekv := r2.isInt
    subst ekv
    have h1' := s2 _ _ h1
    refine ⟨a, xs, z, j, rfl, rfl, h1', by rw [h3.length]; exact hj, L.nx _ _ own _ ((E1.grow s2).put hd e1 h1' (.ml (E.sep a ha) upd_same (by rw [List.length_set]; exact h2) ?_)) m2⟩
    rw [sub_upd (List.mem_append_right _ ha)]
    exact (h3.mono (sub_same s2)).set (r1.clean.mono (sub_same s2)) j
/-! ### a name that holds a def -/
def mCallFn (i : Nat) (fs : List (Str × FM)) (la : LM) : TM := fun δ Q E => ∃ n m, δ[i]? = some (.v (.fn n)) ∧ (n, m) ∈ fs ∧ la δ (fun ds => m ds Q E) E
theorem de_callFn (i : Nat) {fs : List (Str × FM)} (hF : ∀ q, q ∈ fs → ∃ f, PySem.W.nsIn X.K mainGlobals q.1 = some (some (.ref f)) ∧ PySem.W.keepIn X.K (.ref f) = true ∧ FnD X.prog X.w X.K X.mg X.base k f q.2) (hG : GdOk X.A X.base) (hr : Room k X.A) (tk : Takes X W) (hv : PE X (.Name x p) (tVar i))
    (ha : DA X W (e :: es) false la) (he : starEach (e :: es) X.env = (false, eval e X.env) :: starEach es X.env := by rfl) (hpl : (backTo pos (starEach es X.env)).any (·.1) = false := by rfl) : DE X W (.Call (.Name x p) (e :: es) [] pos) false (mCallFn i fs la) := by
  refine ⟨fun pins s σ H Q I ⟨FF, own, δ, P, EK, A, ⟨n, m, hd, hin, mm⟩, q⟩ => ?_⟩
  obtain ⟨f, hn, hk, F⟩ := hF _ hin
  obtain ⟨sv, at_i, v, rfl, rv⟩ := A.env.slot i _ hd
  cases rv with
  | fn hn2 =>
  rw [hn] at hn2
  cases hn2
  refine wpAny_Call_Name_kw (thn (hv.run pins s σ H (fun v H1 => v = .ref f ∧ H1 = H) I ⟨.ref f, at_i, rfl, rfl⟩) fun u s0 ⟨v, H0, I0, rel, ev, eH⟩ => ?_)
  subst ev eH
  obtain rfl : u = Value.ref f := rel
  refine PySem.W.callWith_K (h₀ := X.base) I0.ok.mod.kin hk (thn (ha.run pos pins s0 σ H0 (fun vs H1 => ∃ ds, m ds P EK ∧ Same H0 H1 ∧ RVs X.K FF.ls0 (FF.ls0 ++ own) H1 false vs ds) I0
    ⟨FF, own, δ, _, EK, A, mm, fun ds vs H1 p1 s1 r1 => ⟨ds, p1, s1, r1⟩⟩) fun us s1 ⟨vs, H1, I1, rv, ds, hm1, s01, rr⟩ => ⟨I1.kIn, ?_⟩) he hpl
  have A1 := A.on s01
  exact runP F hG hr tk (E := fun cls dd H' => W cls dd σ H') (fun _ _ _ h => h) I1 rv ⟨FF.ls0 ++ own, ds, P, EK, A1.env.trk, A1.tabs, rr.clean, hm1, fun d v H' pd s2 r2 => q d v H' pd (s01.trans s2) (.cl r2), fun er cls dd H' ke s2 r2 => A1.pass er cls dd H' ke s2 r2⟩
end
theorem ix_last {α : Type} (l : List α) (x : α) : ixN (l ++ [x]).length (-1) = some l.length := by
  unfold ixN
  rw [List.length_append, List.length_singleton]
  rw [if_neg (by omega)]
  simp
  constructor <;> omega
end DL

set_option Elab.async false
set_option linter.all false
set_option maxRecDepth 100000
set_option maxHeartbeats 4000000
/-! DL45: try: call() / except A: return 'a' / except B as e: return 'b ' + repr(e.f): what it says, told once. -/
namespace DL
open PySem PySem.Spec PyProof.Rows L2
variable [TabsC]
/-- the clauses: the class, the word, the field that is shown behind it -/
def metG (isa : Str → Str → Bool) (Q : D → Prop) (E : Er → Prop) (er : Er) : List (Str × Str × Option Str) → Prop
  | [] => E er
  | (c, t, none) :: r => if isa er.cls c = true then Q (.str t) else metG isa Q E er r
  | (c, t, some f) :: r => if isa er.cls c = true then (∃ g d, er.arg = some (g, d) ∧ ∀ a dd : Addr, ∃ nm d2, D.exc a dd er.cls g d = .exc a dd nm f d2 ∧ fRepr [d2] fun y => fAdd (.str t) y fun d => Q d) else metG isa Q E er r
theorem metG_plain {isa : Str → Str → Bool} {Q : D → Prop} {E : Er → Prop} {er : Er} {c t : Str} : ∀ {hs : List (Str × Str × Option Str)}, (hs.find? fun h => isa er.cls h.1) = some (c, t, none) → Q (.str t) → metG isa Q E er hs
  | [], h, _ => by cases h
  | (c1, t1, o1) :: r, h, q => by
    rw [List.find?_cons] at h
    cases hi : isa er.cls c1 with
    | true =>
      rw [hi] at h
      cases h
      show if isa er.cls c = true then _ else _
      rw [if_pos hi]
      exact q
    | false =>
      rw [hi] at h
      have ih := metG_plain (E := E) h q
      cases o1 with
      | none => show if isa er.cls c1 = true then _ else _; rw [if_neg (by rw [hi]; decide)]; exact ih
      | some f => show if isa er.cls c1 = true then _ else _; rw [if_neg (by rw [hi]; decide)]; exact ih
theorem metG_val {isa : Str → Str → Bool} {Q : D → Prop} {E : Er → Prop} {er : Er} {c t f : Str} {d : D} {n k : Nat} (ha : er.arg = some (f, d)) (hd : Sh n k d) (hn : n ≤ 16000000) (hk : k ≤ 60) (ht : t.length ≤ 1000) (q : Q (.str (t ++ d.py.shown))) :
    ∀ {hs : List (Str × Str × Option Str)}, (hs.find? fun h => isa er.cls h.1) = some (c, t, some f) → metG isa Q E er hs
  | [], h => by cases h
  | (c1, t1, o1) :: r, h => by
    rw [List.find?_cons] at h
    cases hi : isa er.cls c1 with
    | true =>
      rw [hi] at h
      cases h
      show if isa er.cls c = true then _ else _
      rw [if_pos hi]
      refine ⟨f, d, ha, fun a dd => ⟨_, _, rfl, fRepr_sh hd (by omega) hk ?_⟩⟩
      have := hd.len
      exact ⟨by rw [sizeLine_eq]; omega, q⟩
    | false =>
      rw [hi] at h
      have ih := metG_val (E := E) ha hd hn hk ht q h
      cases o1 with
      | none => show if isa er.cls c1 = true then _ else _; rw [if_neg (by rw [hi]; decide)]; exact ih
      | some f => show if isa er.cls c1 = true then _ else _; rw [if_neg (by rw [hi]; decide)]; exact ih
/-- a word of a text and a shown value -/
theorem fRepr_word {n k : Nat} {d : D} {t : Str} {Q : D → Prop} (hd : Sh n k d) (hn : n ≤ 16000000) (hk : k ≤ 60) (ht : t.length ≤ 1000) (q : Q (.str (t ++ d.py.shown))) : fRepr [d] fun y => fAdd (.str t) y fun d => Q d := by
  refine fRepr_sh hd (by omega) hk ?_
  have := hd.len
  exact ⟨by rw [sizeLine_eq]; omega, q⟩
/-- what may be told of a value by looking: for lists of odd values -/
def shB (n k : Nat) (d : D) : Bool := d.isPy && d.py.showable && decide (d.py.depth ≤ k) && decide (d.py.shown.length ≤ n) && PyData.strOk d.py.shown
theorem shB_ok {n k : Nat} {d : D} (h : shB n k d = true) : Sh n k d := by
  simp only [shB, Bool.and_eq_true, decide_eq_true_eq] at h
  exact ⟨h.1.1.1.1, h.1.1.1.2, h.1.1.2, h.1.2, h.2⟩
theorem all_of {xs : List D} {p : D → Bool} (h : xs.all p = true) : ∀ x, x ∈ xs → p x = true := fun x hx => List.all_eq_true.mp h x hx
theorem e_dmc (x : DV) (r : List DV) : demote (x :: r) = (match x with | .v d => .v d | _ => .u) :: demote r := rfl
end DL
namespace DL
open PySem PySem.Spec PyProof.Rows L2
/-- walkDT, the tables told behind the head -/
theorem walkDU {l : PySem.W.OpenLaw} {k : Nat} {q : Program} {loose : List Str} {XP : (Str → Option Value) → Heap → Prop} {YP : World → Heap → Prop} {d : DefRec} {K : Params → PySem.W.Frag} {m : FM} (hI : importsNone q = true) (hn : l.most = some 63) (hdf : d.params.defaults = []) (hr : Room k callerA)
    (hY : ∀ (w : World) (h : Heap), YP w h → (K w.params).In h) (hm : LawTrue m)
    (F : ∀ (w : World) (mg : Str → Option Value) (fa : Addr) (h : Heap), (K w.params).In h → h.Ns mainGlobals mg → mg d.name = some (.ref fa) →
      ∃ (T : List (Addr × Str)) (cs : List (Addr × Addr)), (∀ p ∈ T, p.1 ∈ cs.map (·.2)) ∧ (∀ p ∈ cs, ∃ dn fc, LamAt (K w.params) mg q dn fc p.1 p.2) ∧ ∀ base : Heap, (K w.params).In base → base.Ns mainGlobals mg → (∀ p ∈ cs, LamX.TabB base mg p.1 p.2) → @FnD ⟨T⟩ l.prog w (K w.params) mg base k fa m) :
    PySem.W.WalkO q loose XP YP l.row.toRowW d [] (fun f vs => PySem.call f vs) := by
  refine Att.attach_call hn hdf fun w s0 s1 mg mb fa o pm cd doc a vs ns G Y ho hd hcd hmg hobj hints hlen hg => ?_
  obtain ⟨mm, hmm, _⟩ := (G.T.seer hI).mods
  have KX := hY w _ Y
  obtain ⟨T, cs, hTs, hcs, hF⟩ := F w mg fa _ KX G.T.g hmg
  letI : TabsC := ⟨T⟩
  have tab : ∀ p ∈ cs, s1.heap.get? p.2 = some noTab ∧ (K w.params).lookup p.2 = none ∧ PySem.W.CodeHd s1.heap p.1 p.2 := fun p hp => by
    obtain ⟨dn, fc, g, rec, ⟨o1, fd1, k1, k2, k3⟩, ⟨e4, dd4, vs4, sl4, k4, k5⟩, k6⟩ := hcs p hp
    obtain ⟨dL, hmem, hname⟩ := List.any_eq_true.mp rec
    obtain ⟨a', o', fd', c', P', h1, h2, h3, h4, h5, h6⟩ := G.T.tab dL hmem
    rw [beq_iff_eq.mp hname, g] at h1
    cases h1
    rw [KX _ _ k1] at h2
    cases h2
    rw [k2] at h3
    cases h3
    rw [k3] at h4
    cases h4
    have h6' := h6
    obtain ⟨⟨oc, vc, e1, _, e3, e4'⟩, hP⟩ := h6
    rw [KX _ _ k4] at e1
    cases e1
    cases e3
    rw [k5] at e4'
    cases e4'
    exact ⟨hP, k6, .of h5 h6'⟩
  exact law_callT KX G.T.g G.T.b G.T.builtins G.T.nolimit hg ⟨mm, hmm⟩ hTs (fun p hp => (tab p hp).1) (fun p hp => (tab p hp).2.1) (fun p hp => (tab p hp).2.2) G.T.bmain hobj hints hr hF hm hlen
end DL

set_option Elab.async false
set_option linter.all false
set_option maxRecDepth 100000
set_option maxHeartbeats 4000000
namespace DL.Law
open DL
open PySem PySem.Spec PyProof.Rows L2
variable [TabsC]
local macro_rules | `(tactic| walk_at "dl") => `(tactic| simp only [DL.sSeq, DL.sSet, DL.sSetM, DL.sNext, DL.sFalse, DL.sBreak, DL.sCont, DL.sExpr, DL.sRet, DL.sRetN, DL.sIf, DL.sAsg, DL.sPar, DL.sParM, DL.sPar3, DL.sApp, DL.sExt, DL.sFor, DL.sFrz, DL.frzD, DL.mC, DL.mVar, DL.mMut, DL.mBin, DL.mCmp, DL.mCmpT, DL.mChain, DL.mChainT, DL.mTest, DL.mVal, DL.mNotT, DL.mAndT, DL.mOrT, DL.mAnd, DL.mOr, DL.mIf, DL.mNil, DL.mCons, DL.mTup, DL.mLst, DL.mB, DL.mCall, DL.mCall0, DL.mThunk, DL.mThk, DL.e_dm0, DL.e_dmv, DL.e_dmu, DL.e_dmm, DL.e_dms, DL.e_dmc, DL.mRepr, DL.sAug, DL.e_fI2, DL.fAugAdd, DL.fAugSub, DL.sRaise, DL.sRaise0, DL.sTry, DL.hsM, DL.hPlain, DL.hAs, DL.mEF, DL.mSFld, DL.sFld, DL.putFD, DL.mMeth0, DL.mProp, DL.mMake, DL.mMakeS, DL.mIsiC, DL.mKeys, DL.mVals, DL.mItems, DL.mDGet2, DL.mFunD, DL.mFunS, DL.mFunM, DL.mFunMS, DL.endK, DL.endM, DV.s.injEq, DL.fIs, DL.fIsNot, DL.e_nn, DL.e_nt, DL.e_nl, DL.e_ni, DL.e_fIx_1, DL.e_fIx_2, DL.e_fIx_3, DL.e_fIx_4, DL.e_fAdd_1, DL.e_fAdd_2, DL.e_fAdd_3, DL.e_fAdd_4, DL.e_fSub_1, DL.e_fEq_i, DL.e_fNe_i, DL.e_fEq_b, DL.e_fNe_b, DL.e_fI_1, DL.fMul, DL.fDiv, DL.fMod, DL.fPow, DL.e_fCmp_1, DL.e_fCmp_2, DL.fLt, DL.fLe, DL.fGt, DL.fGe, DL.e_fIsB_1, DL.e_fIsNotB_1, DL.e_fLen_1, DL.e_fLen_2, DL.e_fLen_3, DL.e_fLen_4, DL.eAbs, DL.eMax2, DL.eMin2, DL.e_fInt_1, DL.e_fInt_2, DL.fStr, DL.e_fTuple_1, DL.e_fTuple_2, DL.e_fList_1, DL.e_fList_2, DL.mDice, DL.mNeg, DL.mSlice, DL.mNoPart, DL.mPart, DL.e_fSlice_1, DL.e_fSlice_2, DL.mSeq, DL.mRange1, DL.mRange2, DL.mSigns, DL.mJoin, DL.mRev, DL.mStar, DL.mDGet, DL.mFld, DL.mMeth, DL.sPut, DL.sPutL, DL.mCallFn, DL.mCompK, DL.mListVals, DL.mListItems, DL.mCompD, DL.mRep, DL.sParMM, DL.sAppPop, DL.mSumVals, DL.mEqO, DL.mInO, DL.mLenO, DL.mGetO, DL.mFmt, DL.mJs, DL.mJoined, DL.mStrO, DL.mBinO, DL.e_inD, DL.e_lenD, DL.e_listD, DL.e_tupD, DL.e_eqD, DL.e_neD, DL.e_keyI, DL.e_keyS, DL.mFunMD, DL.mMaxLenD, DL.mTupRg1, DL.mTupRg2, DL.mChain3, DL.fSortSet, DL.mZip, DL.mZipM, DL.mEnumT, DL.gN, DL.gT, DL.gsNil, DL.gsCons, DL.mYes, DL.mComp, DL.wipeD, DL.mDisp, DL.mPairs, DL.mpNil, DL.mpCons, DL.startD, DL.mFun, List.getElem?_cons_zero, List.getElem?_cons_succ, List.set_cons_zero, List.set_cons_succ, Option.some.injEq, DV.v.injEq, DV.m.injEq, exists_eq_left', exists_eq_left, List.cons.injEq, and_true, true_and, List.map_cons, List.map_nil, List.length_cons, List.length_nil, List.cons_append, List.nil_append, List.replicate_succ, List.replicate_zero, Nat.reduceSub, Nat.reduceAdd, Nat.zero_add, Nat.zero_le, sizeLine_eq, Nat.reduceLeDiff, Int.reduceLE, Int.reduceLT, DL.p61, Int.reduceNeg, Int.zero_add, D.int.injEq, D.bool.injEq, D.str.injEq, D.list.injEq, D.tup.injEq, D.dict.injEq, DL.e_lk, D.obj.injEq, List.drop_zero, List.take_zero, List.take_succ_cons, List.take_nil, List.drop_succ_cons, List.drop_nil, D.script.injEq, Int.reduceToNat, exists_eq_right, exists_eq_right', List.append_nil, DL.ex2, DL.ex3, DL.atI_0, DL.atI_1, DL.cut_01, reduceCtorEq, false_and, and_false, exists_false, false_or, or_false, Bool.not_true, Bool.not_false, Bool.false_eq_true, if_true, if_false, ite_true, ite_false, decide_true, decide_false, reduceIte])
abbrev owns : List Str := ["Row", "Store"]
abbrev xnames : List Str := ["InvalidNumber", "InvalidOperation", "InvalidStore", "ParseError", "TooMany"]
abbrev xisa (n c : Str) : Bool := decide (n = c)
/-- merged -/
def b_merged : SM :=
  (sSeq (sSetM 1 (mLst mNil))
  (sSeq (sFor (mSeq (mVar 0)) (gT 2 (gsCons (gN 2) (gsCons (gN 3) gsNil)))
  (sIf (mAndT (mCmpT fNe (mMut 1) (mLst mNil)) (mCmpT fEq (mBin fIx (mBin fIx (mMut 1) (mNeg (mC (.int 1)))) (mC (.int 0))) (mVar 2)))
    (sPutL 1 (mNeg (mC (.int 1))) (mTup (mCons (mVar 2) (mCons (mBin fAdd (mBin fIx (mBin fIx (mMut 1) (mNeg (mC (.int 1)))) (mC (.int 1))) (mVar 3)) mNil))))
    (sApp 1 (mTup (mCons (mVar 2) (mCons (mVar 3) mNil))))))
  (sFrz 1 (sRet (mVar 1)))))
def m_merged : FM := mFun 1 4 b_merged

abbrev Runs := List (Int × Int)
def mstep (acc : Runs) (p : Int × Int) : Runs := match acc.getLast? with
  | some q => if q.1 = p.1 then acc.dropLast ++ [(p.1, q.2 + p.2)] else acc ++ [p]
  | none => acc ++ [p]
def mergeT (L : Runs) : Runs := L.foldl mstep []
theorem mergeT_snoc (L : Runs) (p : Int × Int) : mergeT (L ++ [p]) = mstep (mergeT L) p := by unfold mergeT; rw [List.foldl_append] <;> rfl
theorem mstep_end (acc : Runs) (q p : Int × Int) : mstep (acc ++ [q]) p = if q.1 = p.1 then acc ++ [(p.1, q.2 + p.2)] else acc ++ [q] ++ [p] := by
  unfold mstep
  rw [List.getLast?_append]
  simp
theorem mstep_len (acc : Runs) (p : Int × Int) : (mstep acc p).length ≤ acc.length + 1 := by
  rcases List.eq_nil_or_concat acc with rfl | ⟨l, q, rfl⟩
  · simp [mstep]
  · rw [List.concat_eq_append, mstep_end]
    split <;> simp
theorem mergeT_len (L : Runs) : (mergeT L).length ≤ L.length := by
  have : ∀ (n : Nat), (mergeT (L.take n)).length ≤ n := fun n => by
    induction n with
    | zero => simp [mergeT]
    | succ n ih =>
      by_cases h : n < L.length
      · rw [List.take_succ_eq_append_getElem h, mergeT_snoc]
        have := mstep_len (mergeT (L.take n)) L[n]
        omega
      · rw [List.take_of_length_le (by omega)] at ih ⊢
        omega
  have := this L.length
  rwa [List.take_length] at this
theorem fineR (L : Runs) : fineN 2 (.list (L.map pairD)) := fineN_list fun d hd => by
  obtain ⟨p, hp, rfl⟩ := List.mem_map.mp hd
  exact fineP p
def c_merged : FM := fun ds Q _ => ∃ L : Runs, (ds = [.tup (L.map pairD)] ∨ ds = [.list (L.map pairD)]) ∧ L.length ≤ 1000000 ∧ Q (.list ((mergeT L).map pairD))
theorem c_merged_ok : ∀ ds Q E, c_merged ds Q E → m_merged ds Q E := by
  rintro ds Q E ⟨L, hd, hl, q⟩
  have run : ∀ (z : D), forL (gT 2 (gsCons (gN 2) (gsCons (gN 3) gsNil))) (sIf (mAndT (mCmpT fNe (mMut 1) (mLst mNil)) (mCmpT fEq (mBin fIx (mBin fIx (mMut 1) (mNeg (mC (.int 1)))) (mC (.int 0))) (mVar 2)))
      (sPutL 1 (mNeg (mC (.int 1))) (mTup (mCons (mVar 2) (mCons (mBin fAdd (mBin fIx (mBin fIx (mMut 1) (mNeg (mC (.int 1)))) (mC (.int 1))) (mVar 3)) mNil))))
      (sApp 1 (mTup (mCons (mVar 2) (mCons (mVar 3) mNil))))) (L.map pairD) [.v z, .m (.list []), .u, .u] { endK Q E with nx := fun δ => sFrz 1 (sRet (mVar 1)) δ (endK Q E) } := fun z => by
    refine forL_inv (fun i δ => ∃ x y, δ = [DV.v z, .m (.list ((mergeT (L.take i)).map pairD)), x, y]) (fun i d δ N hd ⟨x, y, hδ⟩ hN => ?_) ⟨.u, .u, rfl⟩ fun δ ⟨x, y, hδ⟩ => ?_
    · subst hδ
      rw [List.getElem?_map, Option.map_eq_some_iff] at hd
      obtain ⟨p, hp, rfl⟩ := hd
      have hi := (List.getElem?_eq_some_iff.mp hp).1
      have ht : L.take (i + 1) = L.take i ++ [p] := by rw [List.take_succ_eq_append_getElem hi, (List.getElem?_eq_some_iff.mp hp).2]
      have hm := mergeT_len (L.take i)
      rw [List.length_take] at hm
      have ep : ∀ p : Int × Int, pairD p = .tup [.int p.1, .int p.2] := fun _ => rfl
      rw [ep p]
      walk_at "dl"
      refine ⟨(fineR _).fine (by decide), (fineN_list (n := 0) (ds := []) fun d hd => by cases hd).fine (by decide), ?_⟩
      rw [eqD_list]
      have hN' := hN
      rw [ht, mergeT_snoc] at hN'
      rcases List.eq_nil_or_concat (mergeT (L.take i)) with e | ⟨l, q0, e⟩
      · rw [e] at hN' ⊢
        simp only [List.map_nil, eqAll, Bool.not_true, Bool.false_eq_true, if_false]
        exact ⟨by simp, hN' _ ⟨_, _, rfl⟩⟩
      · rw [List.concat_eq_append] at e
        rw [e, mstep_end] at hN'
        rw [e] at hm ⊢
        rw [List.map_append, List.map_cons, List.map_nil]
        rw [show eqAll (l.map pairD ++ [pairD q0]) [] = false by cases l <;> rfl]
        simp only [Bool.not_false, if_true]
        refine ⟨_, atI_end, ?_⟩
        rw [ep q0]
        walk_at "dl"
        by_cases h : q0.1 = p.1
        · rw [if_pos h] at hN'
          rw [if_pos (by rw [decide_eq_true h])]
          refine ⟨_, atI_end, ?_⟩
          walk_at "dl"
          refine ⟨_, _, rfl, ix_last _ _, hN' _ ⟨.v (.int p.1), .v (.int p.2), ?_⟩⟩
          rw [List.map_append, List.set_append_right _ _ (Nat.le_refl _), Nat.sub_self] <;> rfl
        · rw [if_neg h] at hN'
          rw [if_neg (by rw [decide_eq_true_eq]; exact h)]
          refine ⟨?_, hN' _ ⟨.v (.int p.1), .v (.int p.2), by rw [List.map_append, List.map_append] <;> rfl⟩⟩
          rw [List.length_append, List.length_singleton] at hm
          rw [List.length_append, List.length_map, List.length_singleton]
          omega
    · subst hδ
      rw [List.length_map, List.take_length]
      walk_at "dl"
      exact q
  rcases hd with rfl | rfl
  · unfold m_merged b_merged
    have := run (.tup (L.map pairD))
    walk_at "dl"
    exact this
  · unfold m_merged b_merged
    have := run (.list (L.map pairD))
    walk_at "dl"
    exact this

/-- Row.__init__ -/
def b_Row_init : SM :=
  (sFld 0 "Row" "own_runs" (mB fTuple (mCons (mCall c_merged (mCons (mVar 1) mNil)) mNil)))
def m_Row_init : MM := mFunM 2 2 b_Row_init

def rowD (L : Runs) : D := .obj "Row" [("own_runs", .tup (L.map pairD))]
def storeD (L : Runs) : D := .obj "Store" [("own_runs", .tup (L.map pairD))]
def c_Row_init : MM := fun self ds P _ => ∃ L : Runs, self = .obj "Row" [] ∧ (ds = [.tup (L.map pairD)] ∨ ds = [.list (L.map pairD)]) ∧ L.length ≤ 1000000 ∧ P (rowD (mergeT L)) .none
theorem c_Row_init_ok : ∀ self ds P E, c_Row_init self ds P E → m_Row_init self ds P E := by
  rintro self ds P E ⟨L, rfl, hd, hl, q⟩
  unfold m_Row_init b_Row_init
  rcases hd with rfl | rfl
  · walk_at "dl"
    refine ⟨L, .inl rfl, hl, ?_⟩
    walk_at "dl"
    exact ⟨[], by decide, rfl, q⟩
  · walk_at "dl"
    refine ⟨L, .inr rfl, hl, ?_⟩
    walk_at "dl"
    exact ⟨[], by decide, rfl, q⟩

/-- is_integer -/
def b_is_integer : SM :=
  (sRet (mAnd (mB fIsi (mCons (mVar 0) (mCons (mC (.ty "int")) mNil))) (mAnd (mVal (mNotT (mTest (mB fIsi (mCons (mVar 0) (mCons (mC (.ty "bool")) mNil)))))) (mChain fLt fLt (mNeg (mC (.int 100000000000000000000000000000000000000000000000000000000000000000000000000000000000000000000000000000000000000000000000000000000000000000000000000000000000000000000000000000000000000000000000000000000))) (mVar 0) (mC (.int 100000000000000000000000000000000000000000000000000000000000000000000000000000000000000000000000000000000000000000000000000000000000000000000000000000000000000000000000000000000000000000000000000000000))))))
def m_is_integer : FM := mFun 1 1 b_is_integer

def intD : D → Bool
  | .int i => decide (-(10 ^ 200) < i) && decide (i < 10 ^ 200)
  | _ => false
def c_is_integer : FM := fun ds Q _ => ∃ d, ds = [d] ∧ d.tyn.isSome = true ∧ Q (.bool (intD d))
theorem lim_lit : (100000000000000000000000000000000000000000000000000000000000000000000000000000000000000000000000000000000000000000000000000000000000000000000000000000000000000000000000000000000000000000000000000000000 : Int) = 10 ^ 200 := by decide +kernel
theorem c_is_integer_ok : ∀ ds Q E, c_is_integer ds Q E → m_is_integer ds Q E := by
  rintro ds Q E ⟨d, rfl, ht, q⟩
  unfold m_is_integer b_is_integer
  walk_at "dl"
  rw [isi_int ht]
  refine ⟨_, rfl, ?_⟩
  cases d with
  | int i =>
    rw [show (D.int i).isI = true from rfl, if_pos rfl, isi_bool ht]
    refine ⟨_, rfl, ?_⟩
    rw [show (D.int i).isB = false from rfl]
    walk_at "dl"
    rw [lim_lit]
    simp only [intD] at q
    by_cases h1 : -(10 ^ 200) < i
    · rw [decide_eq_true h1, Bool.true_and] at q
      rw [decide_eq_true h1, if_pos rfl]
      exact q
    · rw [decide_eq_false h1, Bool.false_and] at q
      rw [decide_eq_false h1, if_neg (by decide)]
      exact q
  | bool b =>
    rw [show (D.bool b).isI = true from rfl, if_pos rfl, isi_bool ht]
    refine ⟨_, rfl, ?_⟩
    rw [show (D.bool b).isB = true from rfl, if_neg (by decide)]
    exact q
  | _ => exact q
theorem isN {d : D} {Q : D → Prop} {E : Er → Prop} (h : d.tyn.isSome = true) (q : Q (.bool (intD d))) : c_is_integer [d] Q E := ⟨d, rfl, h, q⟩

/-- is_size -/
def b_is_size : SM :=
  (sRet (mAnd (mCall c_is_integer (mCons (mVar 0) mNil)) (mCmp fGe (mVar 0) (mC (.int 1)))))
def m_is_size : FM := mFun 1 1 b_is_size

def sizD : D → Bool
  | .int i => decide (1 ≤ i) && decide (i < 10 ^ 200)
  | _ => false
def c_is_size : FM := fun ds Q _ => ∃ d, ds = [d] ∧ d.tyn.isSome = true ∧ Q (.bool (sizD d))
theorem siz_eq (i : Int) : sizD (.int i) = (intD (.int i) && decide (i ≥ 1)) := by
  simp only [sizD, intD, ge_iff_le]
  by_cases h : 1 ≤ i
  · rw [decide_eq_true h, decide_eq_true (show -(10 ^ 200) < i by omega)]; simp
  · rw [decide_eq_false h, Bool.false_and, Bool.and_false]
theorem c_is_size_ok : ∀ ds Q E, c_is_size ds Q E → m_is_size ds Q E := by
  rintro ds Q E ⟨d, rfl, ht, q⟩
  unfold m_is_size b_is_size
  walk_at "dl"
  refine ⟨d, rfl, ht, _, rfl, ?_⟩
  cases d with
  | int i =>
    rw [siz_eq] at q
    cases h : intD (.int i) with
    | true =>
      rw [h, Bool.true_and] at q
      rw [if_pos rfl]
      exact q
    | false =>
      rw [h, Bool.false_and] at q
      rw [if_neg (by decide)]
      exact q
  | _ => exact q
theorem isZ {d : D} {Q : D → Prop} {E : Er → Prop} (h : d.tyn.isSome = true) (q : Q (.bool (sizD d))) : c_is_size [d] Q E := ⟨d, rfl, h, q⟩

/-- is_run -/
def b_is_run : SM :=
  (sRet (mAnd (mB fIsi (mCons (mVar 0) (mCons (mC (.ty "tuple")) mNil))) (mAnd (mCmp fEq (mB fLen (mCons (mVar 0) mNil)) (mC (.int 2))) (mAnd (mCall c_is_size (mCons (mBin fIx (mVar 0) (mC (.int 0))) mNil)) (mCall c_is_size (mCons (mBin fIx (mVar 0) (mC (.int 1))) mNil))))))
def m_is_run : FM := mFun 1 1 b_is_run

def runD : D → Bool
  | .tup [a, b] => sizD a && sizD b
  | _ => false
def c_is_run : FM := fun ds Q _ => ∃ d, ds = [d] ∧ d.tyn.isSome = true ∧ (∀ xs, d = .tup xs → xs.length ≤ 1000 ∧ ∀ x, x ∈ xs → x.tyn.isSome = true) ∧ Q (.bool (runD d))
theorem c_is_run_ok : ∀ ds Q E, c_is_run ds Q E → m_is_run ds Q E := by
  rintro ds Q E ⟨d, rfl, ht, hx, q⟩
  unfold m_is_run b_is_run
  walk_at "dl"
  rw [isi_tup ht]
  refine ⟨_, rfl, ?_⟩
  cases d with
  | tup xs =>
    rw [show (D.tup xs).isT = true from rfl, if_pos rfl]
    obtain ⟨hl, hx⟩ := hx xs rfl
    walk_at "dl"
    match xs, hl, hx, q with
    | [], _, _, q => exact q
    | [a], _, _, q => exact q
    | [a, b], _, hx, q =>
      rw [if_pos (by rfl)]
      refine ⟨a, rfl, isZ (hx a (by simp)) ⟨_, rfl, ?_⟩⟩
      cases ha : sizD a with
      | true =>
        rw [if_pos rfl]
        refine ⟨b, rfl, isZ (hx b (by simp)) ?_⟩
        simp only [runD, ha, Bool.true_and] at q
        exact q
      | false =>
        rw [if_neg (by decide)]
        simp only [runD, ha, Bool.false_and] at q
        exact q
    | a :: b :: c :: r, _, _, q =>
      rw [if_neg (by simp; omega)]
      exact q
  | _ => exact q

/-- Store.__init__ -/
def b_Store_init : SM :=
  (sIf (mAndT (mCmpT fEq (mB fLen (mCons (mVar 1) mNil)) (mC (.int 1))) (mTest (mIsiC owns "Row" (mBin fIx (mVar 1) (mC (.int 0))))))
  (sFld 0 "Store" "own_runs" (mFld "Row" (mBin fIx (mVar 1) (mC (.int 0))) "own_runs"))
  (sSeq (sIf (mNotT (mTest (mB fAll (mCons (mComp [2] (mSeq (mVar 1)) (gN 2) mYes (mCall c_is_run (mCons (mVar 2) mNil))) mNil))))
    (sRaise0 "InvalidStore")
    sNext)
    (sSeq (sSet 3 (mCall c_merged (mCons (mVar 1) mNil)))
    (sSeq (sIf (mCmpT fGt (mB fLen (mCons (mVar 3) mNil)) (mC (.int 40)))
    (sRaise0 "InvalidStore")
    sNext)
    (sFld 0 "Store" "own_runs" (mB fTuple (mCons (mVar 3) mNil)))))))
def m_Store_init : MM := mFunMS 4 b_Store_init

def runArg (d : D) : Prop := d.tyn.isSome = true ∧ ∀ xs, d = .tup xs → xs.length ≤ 1000 ∧ ∀ x, x ∈ xs → x.tyn.isSome = true
def noE' (nm : Str) : Er := ⟨nm, none⟩
/-- stores of runs, of a row that is made already -/
def c_Store_init : MM := fun self ds P E => self = .obj "Store" [] ∧ ((∃ L : Runs, ds = [rowD L] ∧ P (storeD L) .none) ∨ (ds.length ≤ 100 ∧ (∀ d, d ∈ ds → runArg d) ∧ (ds.all runD = false → ∀ z, E z (noE' "InvalidStore")) ∧ ∀ L : Runs, ds = L.map pairD → ds.all runD = true → if (mergeT L).length ≤ 40 then P (storeD (mergeT L)) .none else ∀ z, E z (noE' "InvalidStore")))
theorem isCls_row {d : D} (h : d.tyn.isSome = true) : isClsD "Row" d = false := by
  cases d with
  | obj n fs => cases h
  | _ => rfl
theorem runD_pair {d : D} (h : runD d = true) : ∃ p : Int × Int, d = pairD p ∧ (1 ≤ p.1 ∧ p.1 < 10 ^ 200) ∧ (1 ≤ p.2 ∧ p.2 < 10 ^ 200) := by
  cases d with
  | tup xs =>
    match xs, h with
    | [a, b], h =>
      simp only [runD, Bool.and_eq_true] at h
      cases a <;> first | cases h.1 | skip
      cases b <;> first | cases h.2 | skip
      rename_i x y
      simp only [sizD, Bool.and_eq_true, decide_eq_true_eq] at h
      exact ⟨(x, y), rfl, h.1, h.2⟩
  | _ => cases h
theorem runs_of : ∀ {ds : List D}, ds.all runD = true → ∃ L : Runs, ds = L.map pairD ∧ ∀ p, p ∈ L → (1 ≤ p.1 ∧ p.1 < 10 ^ 200) ∧ (1 ≤ p.2 ∧ p.2 < 10 ^ 200)
  | [], _ => ⟨[], rfl, fun p hp => by cases hp⟩
  | d :: ds, h => by
    rw [List.all_cons, Bool.and_eq_true] at h
    obtain ⟨p, rfl, hp⟩ := runD_pair h.1
    obtain ⟨L, rfl, hL⟩ := runs_of h.2
    refine ⟨p :: L, rfl, fun q hq => ?_⟩
    rcases List.mem_cons.mp hq with rfl | hq
    · exact hp
    · exact hL q hq
theorem c_Store_init_ok : ∀ self ds P E, c_Store_init self ds P E → m_Store_init self ds P E := by
  rintro self ds P E ⟨rfl, h⟩
  unfold m_Store_init b_Store_init
  rcases h with ⟨L, rfl, q⟩ | ⟨hl, ha, he, q⟩
  · walk_at "dl"
    rw [if_pos (by rfl)]
    refine ⟨.inr ⟨_, _, rfl, by decide⟩, _, rfl, ?_⟩
    rw [if_pos (by rfl)]
    exact ⟨_, rfl, _, rfl, [], by decide, rfl, q⟩
  · walk_at "dl"
    refine ⟨by omega, ?_⟩
    have tail : compL (gN 2) mYes (mCall c_is_run (mCons (mVar 2) mNil)) [DV.s (.obj "Store" []), .v (.tup ds), .u, .u] ds [] fun d => fAll [d] fun d => ∃ c, d = .bool c ∧ if (!c) = true then E (.obj "Store" []) { cls := "InvalidStore", arg := none } else
        c_merged [.tup ds] (fun d => fLen [d] fun x => fCmp (fun i j => decide (j < i)) (fun i j => decide (j < i)) x (.int 40) fun c => if c = true then E (.obj "Store" []) { cls := "InvalidStore", arg := none } else fTuple [d] fun v => ∃ ds, ds.length < 900 ∧ [] = ds ∧ P (.obj "Store" (putFD "own_runs" v ds)) .none) fun er => E (.obj "Store" []) er := by
      refine compL_map (fun d => .bool (runD d)) (fun d hd R S hR => ?_) ?_
      · walk_at "dl"
        exact ⟨d, rfl, (ha d hd).1, (ha d hd).2, hR⟩
      · refine ⟨ds.map runD, by rw [List.nil_append, List.map_map] <;> rfl, _, rfl, ?_⟩
        cases hall : ds.all runD with
        | false =>
          rw [if_pos (by rw [List.all_map]; show (!ds.all runD) = true; rw [hall]; rfl)]
          exact he hall _
        | true =>
          rw [if_neg (by rw [List.all_map]; show ¬ (!ds.all runD) = true; rw [hall]; decide)]
          obtain ⟨L, rfl, hL⟩ := runs_of hall
          have q' := q L rfl hall
          rw [List.length_map] at hl
          refine ⟨L, .inl rfl, by omega, ?_⟩
          walk_at "dl"
          rw [List.length_map]
          by_cases h40 : (mergeT L).length ≤ 40
          · rw [if_pos h40] at q'
            rw [if_neg (by rw [decide_eq_true_eq]; omega)]
            exact ⟨[], by decide, rfl, q'⟩
          · rw [if_neg h40] at q'
            rw [if_pos (by rw [decide_eq_true_eq]; omega)]
            exact q' _
    split
    · rename_i h
      match ds, h, tail with
      | [d], _, tail =>
        refine ⟨d, rfl, .inl (ha d (by simp)).1, _, rfl, ?_⟩
        rw [isCls_row (ha d (by simp)).1, if_neg (by decide)]
        exact tail
    · exact tail
theorem pairD_inj {p q : Int × Int} (e : pairD p = pairD q) : p = q := by
  unfold pairD at e
  injection e with e
  injection e with e1 e2
  injection e1 with e1
  injection e2 with e2 _
  injection e2 with e2
  exact Prod.ext e1 e2
theorem runs_inj : ∀ {L M : Runs}, L.map pairD = M.map pairD → L = M
  | [], [], _ => rfl
  | [], _ :: _, e => by cases e
  | _ :: _, [], e => by cases e
  | p :: L, q :: M, e => by
    rw [List.map_cons, List.map_cons] at e
    injection e with e1 e2
    rw [pairD_inj e1, runs_inj e2]
theorem run_arg (p : Int × Int) : runArg (pairD p) := ⟨rfl, fun xs e => by
  cases e
  exact ⟨by rw [List.length_cons, List.length_cons, List.length_nil]; decide, fun x hx => by
    simp only [List.mem_cons, List.not_mem_nil, or_false] at hx
    rcases hx with rfl | rfl <;> rfl⟩⟩
theorem run_yes {p : Int × Int} (h : (1 ≤ p.1 ∧ p.1 < 10 ^ 200) ∧ 1 ≤ p.2 ∧ p.2 < 10 ^ 200) : runD (pairD p) = true := by
  show (sizD (.int p.1) && sizD (.int p.2)) = true
  simp only [sizD, Bool.and_eq_true, decide_eq_true_eq]
  exact h
theorem init_ok {M : Runs} {P : D → D → Prop} {E : D → Er → Prop} (hl : M.length ≤ 100) (hM : ∀ p, p ∈ M → (1 ≤ p.1 ∧ p.1 < 10 ^ 200) ∧ 1 ≤ p.2 ∧ p.2 < 10 ^ 200) (h40 : (mergeT M).length ≤ 40) (q : P (storeD (mergeT M)) .none) : c_Store_init (.obj "Store" []) (M.map pairD) P E := by
  have all : (M.map pairD).all runD = true := by
    rw [List.all_map]
    exact List.all_eq_true.mpr fun p hp => run_yes (hM p hp)
  refine ⟨rfl, .inr ⟨by rw [List.length_map]; exact hl, fun d hd => ?_, fun h => ?_, fun L hL _ => ?_⟩⟩
  · obtain ⟨p, hp, rfl⟩ := List.mem_map.mp hd
    exact run_arg p
  · rw [all] at h; cases h
  · rw [← runs_inj hL, if_pos h40]
    exact q
theorem init_bad {ds : List D} {P : D → D → Prop} {E : D → Er → Prop} (hl : ds.length ≤ 100) (ha : ∀ d, d ∈ ds → runArg d) (hb : ds.all runD = false) (q : ∀ z, E z (noE' "InvalidStore")) : c_Store_init (.obj "Store" []) ds P E :=
  ⟨rfl, .inr ⟨hl, ha, fun _ => q, fun L _ h => by rw [hb] at h; cases h⟩⟩
/-- what is not a run, by looking -/
def oddRun (d : D) : Bool := d.tyn.isSome && (match d with | .tup xs => decide (xs.length ≤ 1000) && xs.all (fun x => x.tyn.isSome) | _ => true) && !runD d
theorem oddRun_ok {d : D} (h : oddRun d = true) : runArg d ∧ runD d = false := by
  simp only [oddRun, Bool.and_eq_true, Bool.not_eq_true'] at h
  refine ⟨⟨h.1.1, fun xs e => ?_⟩, h.2⟩
  subst e
  have := h.1.2
  simp only [Bool.and_eq_true, decide_eq_true_eq] at this
  exact ⟨this.1, List.all_eq_true.mp this.2⟩

/-- store_of -/
def b_store_of : SM :=
  (sRet (mMake "Store" c_Store_init (mCons (mMake "Row" c_Row_init (mCons (mVar 0) mNil)) mNil)))
def m_store_of : FM := mFun 1 1 b_store_of

def c_store_of : FM := fun ds Q _ => ∃ L : Runs, (ds = [.tup (L.map pairD)] ∨ ds = [.list (L.map pairD)]) ∧ L.length ≤ 1000000 ∧ Q (storeD (mergeT L))
theorem c_store_of_ok : ∀ ds Q E, c_store_of ds Q E → m_store_of ds Q E := by
  rintro ds Q E ⟨L, hd, hl, q⟩
  unfold m_store_of b_store_of
  rcases hd with rfl | rfl
  · walk_at "dl"
    exact ⟨L, rfl, .inl rfl, hl, rfl, rfl, .inl ⟨_, rfl, rfl, q⟩⟩
  · walk_at "dl"
    exact ⟨L, rfl, .inr rfl, hl, rfl, rfl, .inl ⟨_, rfl, rfl, q⟩⟩

/-- few_runs -/
def b_few_runs : SM :=
  (sSeq (sSet 1 (mCall c_store_of (mCons (mVar 0) mNil)))
  (sSeq (sIf (mCmpT fGt (mB fLen (mCons (mFld "Store" (mVar 1) "own_runs") mNil)) (mC (.int 40)))
  (sRaise "TooMany" "limit" (mC (.int 40)))
  sNext)
  (sRet (mVar 1))))
def m_few_runs : FM := mFun 1 2 b_few_runs

def manyE : Er := ⟨"TooMany", some ("limit", .int 40)⟩
def c_few_runs : FM := fun ds Q E => ∃ L : Runs, (ds = [.tup (L.map pairD)] ∨ ds = [.list (L.map pairD)]) ∧ L.length ≤ 1000000 ∧ if (mergeT L).length ≤ 40 then Q (storeD (mergeT L)) else E manyE
theorem c_few_runs_ok : ∀ ds Q E, c_few_runs ds Q E → m_few_runs ds Q E := by
  rintro ds Q E ⟨L, hd, hl, q⟩
  unfold m_few_runs b_few_runs
  rcases hd with rfl | rfl
  all_goals
    walk_at "dl"
    refine ⟨L, by first | exact .inl rfl | exact .inr rfl, hl, _, rfl, _, rfl, ?_⟩
    walk_at "dl"
    rw [List.length_map]
    split at q
    · rename_i h
      rw [if_neg (by rw [decide_eq_true_eq]; omega)]
      exact q
    · rename_i h
      rw [if_pos (by rw [decide_eq_true_eq]; omega)]
      exact q

/-- Store.__add__ -/
def b_Store_add : SM :=
  (sSeq (sIf (mNotT (mTest (mIsiC owns "Store" (mVar 1))))
  (sRaise0 "InvalidOperation")
  sNext)
  (sRet (mCall c_few_runs (mCons (mLst (mStar (mFld "Store" (mVar 0) "own_runs") (mStar (mFld "Store" (mVar 1) "own_runs") mNil))) mNil))))
def m_Store_add : FM := mFun 2 2 b_Store_add

theorem isCls_store {d : D} (h : d.tyn.isSome = true) : isClsD "Store" d = false := by
  cases d with
  | obj n fs => cases h
  | _ => rfl
def c_Store_add : FM := fun ds Q E => ∃ (L : Runs) (d : D), ds = [storeD L, d] ∧ L.length ≤ 1000 ∧ ((d.tyn.isSome = true ∧ E (noE' "InvalidOperation")) ∨ ∃ M : Runs, d = storeD M ∧ M.length ≤ 1000 ∧ if (mergeT (L ++ M)).length ≤ 40 then Q (storeD (mergeT (L ++ M))) else E manyE)
theorem c_Store_add_ok : ∀ ds Q E, c_Store_add ds Q E → m_Store_add ds Q E := by
  rintro ds Q E ⟨L, d, rfl, hl, h⟩
  unfold m_Store_add b_Store_add
  rcases h with ⟨ht, q⟩ | ⟨M, rfl, hm, q⟩
  · walk_at "dl"
    refine ⟨.inl ht, _, rfl, ?_⟩
    rw [isCls_store ht, if_pos (by decide)]
    exact q
  · walk_at "dl"
    refine ⟨.inr ⟨_, _, rfl, by decide⟩, _, rfl, ?_⟩
    rw [if_neg (by rw [show isClsD "Store" (storeD M) = true from rfl]; decide)]
    refine ⟨_, rfl, _, rfl, _, .inl rfl, _, rfl, _, rfl, _, .inl rfl, ?_⟩
    refine ⟨by rw [List.length_append, List.length_map, List.length_map]; omega, L ++ M, .inr (by rw [List.map_append]), by rw [List.length_append]; omega, q⟩

/-- Store.number -/
def b_Store_number : SM :=
  (sRet (mB fSum (mCons (mComp [1, 2] (mSeq (mFld "Store" (mVar 0) "own_runs")) (gT 2 (gsCons (gN 1) (gsCons (gN 2) gsNil))) mYes (mVar 2)) mNil)))
def m_Store_number : FM := mFun 1 3 b_Store_number

theorem pairs_snd {L : Runs} {δ0 : List DV} {i j : Nat} {Q : D → Prop} (hi : i < δ0.length) (hj : j < δ0.length) (hij : i ≠ j) (q : Q (.list ((L.map (·.2)).map .int))) : compL (gT 2 (gsCons (gN i) (gsCons (gN j) gsNil))) mYes (mVar j) δ0 (L.map pairD) [] Q := by
  refine compL_map (fun d => match d with | .tup [_, y] => y | _ => .none) (fun d hd R S hR => ?_) ?_
  · obtain ⟨p, hp, rfl⟩ := List.mem_map.mp hd
    refine ⟨_, rfl, rfl, _, _, rfl, _, _, rfl, rfl, ?_⟩
    walk_at "dl"
    refine ⟨_, ?_, hR⟩
    rw [List.getElem?_set_self (by rw [List.length_set]; exact hj)] <;> rfl
  · rw [List.nil_append, List.map_map]
    rw [List.map_map] at q
    exact q
def c_Store_number : FM := fun ds Q _ => ∃ L : Runs, ds = [storeD L] ∧ Q (.int (numT L))
theorem c_Store_number_ok : ∀ ds Q E, c_Store_number ds Q E → m_Store_number ds Q E := by
  rintro ds Q E ⟨L, rfl, q⟩
  unfold m_Store_number b_Store_number
  walk_at "dl"
  refine ⟨_, rfl, _, rfl, .inr ⟨_, rfl, pairs_snd (by simp) (by simp) (by decide) ⟨_, rfl, q⟩⟩⟩

/-- is_count -/
def b_is_count : SM :=
  (sRet (mAnd (mCall c_is_integer (mCons (mVar 0) mNil)) (mCmp fGe (mVar 0) (mC (.int 0)))))
def m_is_count : FM := mFun 1 1 b_is_count

def cntD : D → Bool
  | .int i => decide (0 ≤ i) && decide (i < 10 ^ 200)
  | _ => false
def c_is_count : FM := fun ds Q _ => ∃ d, ds = [d] ∧ d.tyn.isSome = true ∧ Q (.bool (cntD d))
theorem cnt_eq (i : Int) : cntD (.int i) = (intD (.int i) && decide (i ≥ 0)) := by
  simp only [cntD, intD, ge_iff_le]
  by_cases h : 0 ≤ i
  · rw [decide_eq_true h, decide_eq_true (show -(10 ^ 200) < i by omega)]; simp
  · rw [decide_eq_false h, Bool.false_and, Bool.and_false]
theorem c_is_count_ok : ∀ ds Q E, c_is_count ds Q E → m_is_count ds Q E := by
  rintro ds Q E ⟨d, rfl, ht, q⟩
  unfold m_is_count b_is_count
  walk_at "dl"
  refine ⟨d, rfl, ht, _, rfl, ?_⟩
  cases d with
  | int i =>
    rw [cnt_eq] at q
    cases h : intD (.int i) with
    | true =>
      rw [h, Bool.true_and] at q
      rw [if_pos rfl]
      exact q
    | false =>
      rw [h, Bool.false_and] at q
      rw [if_neg (by decide)]
      exact q
  | _ => exact q
theorem isC {d : D} {Q : D → Prop} {E : Er → Prop} (h : d.tyn.isSome = true) (q : Q (.bool (cntD d))) : c_is_count [d] Q E := ⟨d, rfl, h, q⟩

/-- require_size -/
def b_require_size : SM :=
  (sIf (mNotT (mTest (mCall c_is_size (mCons (mVar 0) mNil))))
  (sRaise "InvalidNumber" "value" (mVar 0))
  sNext)
def m_require_size : FM := mFun 1 1 b_require_size

def numE (d : D) : Er := ⟨"InvalidNumber", some ("value", d)⟩
def c_require_size : FM := fun ds Q E => ∃ d, ds = [d] ∧ d.tyn.isSome = true ∧ if sizD d = true then Q .none else E (numE d)
theorem c_require_size_ok : ∀ ds Q E, c_require_size ds Q E → m_require_size ds Q E := by
  rintro ds Q E ⟨d, rfl, ht, q⟩
  unfold m_require_size b_require_size
  walk_at "dl"
  refine isZ ht ⟨_, rfl, ?_⟩
  cases h : sizD d with
  | true =>
    rw [h, if_pos rfl] at q
    rw [if_neg (by decide)]
    exact q
  | false =>
    rw [h, if_neg (by decide)] at q
    rw [if_pos (by decide)]
    exact q

/-- runs_between -/
def b_runs_between : SM :=
  (sSeq (sParM 3 4 (mLst mNil) (mC (.int 0)))
  (sSeq (sFor (mSeq (mVar 0)) (gT 2 (gsCons (gN 5) (gsCons (gN 6) gsNil)))
  (sSeq (sPar 7 8 (mCons (mB fMax2 (mCons (mVar 4) (mCons (mVar 1) mNil))) (mCons (mB fMin2 (mCons (mBin fAdd (mVar 4) (mVar 6)) (mCons (mVar 2) mNil))) mNil)))
    (sSeq (sIf (mCmpT fLt (mVar 7) (mVar 8))
    (sApp 3 (mTup (mCons (mVar 5) (mCons (mBin fSub (mVar 8) (mVar 7)) mNil))))
    sNext)
    (sAug 4 fAugAdd (mVar 6)))))
  (sFrz 3 (sRet (mVar 3)))))
def m_runs_between : FM := mFun 3 9 b_runs_between

def maxI (i j : Int) : Int := if j > i then j else i
def minI (i j : Int) : Int := if j < i then j else i
def betw (f l : Int) : Runs → Int → Runs
  | [], _ => []
  | p :: r, b => (if maxI b f < minI (b + p.2) l then [(p.1, minI (b + p.2) l - maxI b f)] else []) ++ betw f l r (b + p.2)
theorem betw_cons (f l : Int) (p : Int × Int) (r : Runs) (b : Int) : betw f l (p :: r) b = (if maxI b f < minI (b + p.2) l then [(p.1, minI (b + p.2) l - maxI b f)] else []) ++ betw f l r (b + p.2) := rfl
theorem betw_len (f l : Int) : ∀ (L : Runs) (b : Int), (betw f l L b).length ≤ L.length
  | [], _ => Nat.le_refl _
  | p :: r, b => by
    have := betw_len f l r (b + p.2)
    unfold betw
    split
    · rw [List.length_append, List.length_singleton, List.length_cons]; omega
    · rw [List.nil_append, List.length_cons]; omega
def c_runs_between : FM := fun ds Q _ => ∃ (L : Runs) (f l : Int), ds = [.tup (L.map pairD), .int f, .int l] ∧ L.length ≤ 1000000 ∧ Q (.list ((betw f l L 0).map pairD))
theorem c_runs_between_ok : ∀ ds Q E, c_runs_between ds Q E → m_runs_between ds Q E := by
  rintro ds Q E ⟨L, f, l, rfl, hl, q⟩
  unfold m_runs_between b_runs_between
  walk_at "dl"
  refine forL_inv (fun i δ => ∃ (acc : Runs) (b : Int) (x y z w : DV), δ = [DV.v (.tup (L.map pairD)), .v (.int f), .v (.int l), .m (.list (acc.map pairD)), .v (.int b), x, y, z, w] ∧ acc.length ≤ i ∧ acc ++ betw f l (L.drop i) b = betw f l L 0) (fun i d δ N hd ⟨acc, b, x, y, z, w, hδ, ha, he⟩ hN => ?_) ⟨[], 0, .u, .u, .u, .u, rfl, Nat.le_refl _, rfl⟩ fun δ ⟨acc, b, x, y, z, w, hδ, ha, he⟩ => ?_
  · subst hδ
    rw [List.getElem?_map, Option.map_eq_some_iff] at hd
    obtain ⟨p, hp, rfl⟩ := hd
    have hi := (List.getElem?_eq_some_iff.mp hp).1
    rw [drop_get hp, betw_cons] at he
    rw [show pairD p = D.tup [D.int p.1, D.int p.2] from rfl]
    walk_at "dl"
    show if decide (maxI b f < minI (b + p.2) l) = true then _ else _
    by_cases h : maxI b f < minI (b + p.2) l
    · rw [if_pos h] at he
      rw [if_pos (decide_eq_true h)]
      refine ⟨by rw [List.length_map]; omega, hN _ ⟨acc ++ [(p.1, minI (b + p.2) l - maxI b f)], b + p.2, _, _, _, _, by rw [List.map_append] <;> rfl, by rw [List.length_append, List.length_singleton]; omega, ?_⟩⟩
      rw [← he]
      simp
    · rw [if_neg h] at he
      rw [if_neg (by rw [decide_eq_true_eq]; exact h)]
      exact hN _ ⟨acc, b + p.2, _, _, _, _, rfl, by omega, by rw [← he]; simp⟩
  · subst hδ
    rw [List.length_map, List.drop_length, show betw f l [] b = [] from rfl, List.append_nil] at he
    walk_at "dl"
    rw [he]
    exact q

/-- Store.exchanged -/
def b_Store_exchanged : SM :=
  (sSeq (sSet 3 (mProp "Store" c_Store_number (mVar 0)))
  (sSeq (sIf (mOrT (mNotT (mTest (mCall c_is_count (mCons (mVar 1) mNil)))) (mCmpT fGe (mVar 1) (mVar 3)))
  (sRaise "InvalidNumber" "value" (mVar 1))
  sNext)
  (sSeq (sExpr (mCall c_require_size (mCons (mVar 2) mNil)))
  (sSeq (sPar 4 5 (mCons (mCall c_runs_between (mCons (mFld "Store" (mVar 0) "own_runs") (mCons (mC (.int 0)) (mCons (mVar 1) mNil)))) (mCons (mCall c_runs_between (mCons (mFld "Store" (mVar 0) "own_runs") (mCons (mBin fAdd (mVar 1) (mC (.int 1))) (mCons (mVar 3) mNil)))) mNil)))
  (sRet (mCall c_few_runs (mCons (mLst (mStar (mVar 4) (mCons (mTup (mCons (mVar 2) (mCons (mC (.int 1)) mNil))) (mStar (mVar 5) mNil)))) mNil)))))))
def m_Store_exchanged : FM := mFun 3 6 b_Store_exchanged

def exchT (L : Runs) (i r : Int) : Runs := betw 0 i L 0 ++ (r, 1) :: betw (i + 1) (numT L) L 0
def c_Store_exchanged : FM := fun ds Q E => ∃ (L : Runs) (a d : D), ds = [storeD L, a, d] ∧ L.length ≤ 1000 ∧ a.tyn.isSome = true ∧ d.tyn.isSome = true ∧ if (cntD a && decide (iOf a < numT L)) = true then (if sizD d = true then (if (mergeT (exchT L (iOf a) (iOf d))).length ≤ 40 then Q (storeD (mergeT (exchT L (iOf a) (iOf d)))) else E manyE) else E (numE d)) else E (numE a)
theorem cnt_int {d : D} (h : cntD d = true) : ∃ i, d = .int i ∧ 0 ≤ i ∧ i < 10 ^ 200 := by
  cases d with
  | int i =>
    simp only [cntD, Bool.and_eq_true, decide_eq_true_eq] at h
    exact ⟨i, rfl, h⟩
  | _ => cases h
theorem siz_int {d : D} (h : sizD d = true) : ∃ i, d = .int i ∧ 1 ≤ i ∧ i < 10 ^ 200 := by
  cases d with
  | int i =>
    simp only [sizD, Bool.and_eq_true, decide_eq_true_eq] at h
    exact ⟨i, rfl, h⟩
  | _ => cases h
theorem c_Store_exchanged_ok : ∀ ds Q E, c_Store_exchanged ds Q E → m_Store_exchanged ds Q E := by
  rintro ds Q E ⟨L, a, d, rfl, hl, ta, td, q⟩
  unfold m_Store_exchanged b_Store_exchanged
  walk_at "dl"
  refine ⟨_, rfl, L, rfl, isC ta ⟨_, rfl, ?_⟩⟩
  cases ha : cntD a with
  | false =>
    rw [ha, Bool.false_and, if_neg (by decide)] at q
    rw [if_pos (by decide)]
    exact q
  | true =>
    obtain ⟨i, rfl, i0, i1⟩ := cnt_int ha
    rw [ha, Bool.true_and] at q
    rw [if_neg (by decide)]
    walk_at "dl"
    by_cases hi : i < numT L
    · rw [if_pos (show decide (iOf (D.int i) < numT L) = true from decide_eq_true hi)] at q
      rw [if_neg (by rw [decide_eq_true_eq]; omega)]
      refine ⟨d, rfl, td, ?_⟩
      cases hd : sizD d with
      | false =>
        rw [hd, if_neg (by decide)] at q
        rw [if_neg (by decide)]
        exact q
      | true =>
        rw [hd, if_pos rfl] at q
        rw [if_pos rfl]
        obtain ⟨r, rfl, r0, r1⟩ := siz_int hd
        have b1 := betw_len 0 i L 0
        have b2 := betw_len (i + 1) (numT L) L 0
        have e : (betw 0 i L 0).map pairD ++ .tup [.int r, .int 1] :: (betw (i + 1) (numT L) L 0).map pairD = (exchT L i r).map pairD := by unfold exchT; rw [List.map_append, List.map_cons] <;> rfl
        refine ⟨_, rfl, _, rfl, L, 0, i, rfl, by omega, _, rfl, _, rfl, L, i + 1, numT L, rfl, by omega, ?_⟩
        walk_at "dl"
        rw [e]
        have hz : (exchT L i r).length ≤ 2001 := by unfold exchT; rw [List.length_append, List.length_cons]; omega
        refine ⟨by rw [List.length_map]; omega, exchT L i r, .inr rfl, by omega, q⟩
    · rw [if_neg (show ¬ decide (iOf (D.int i) < numT L) = true from fun z => hi (of_decide_eq_true z))] at q
      rw [if_pos (by rw [decide_eq_true_eq]; omega)]
      exact q

/-- Store.__len__ -/
def b_Store_len : SM :=
  (sRet (mB fLen (mCons (mFld "Store" (mVar 0) "own_runs") mNil)))
def m_Store_len : FM := mFun 1 1 b_Store_len

def c_Store_len : FM := fun ds Q _ => ∃ L : Runs, ds = [storeD L] ∧ Q (.int (L.length : Int))
theorem c_Store_len_ok : ∀ ds Q E, c_Store_len ds Q E → m_Store_len ds Q E := by
  rintro ds Q E ⟨L, rfl, q⟩
  unfold m_Store_len b_Store_len
  walk_at "dl"
  refine ⟨_, rfl, _, rfl, ?_⟩
  walk_at "dl"
  rw [List.length_map]
  exact q

/-- _law_dice -/
def b_law_dice : SM :=
  (sSeq (sSet 2 (mIf (mCmpT fLt (mVar 1) (mB fLen (mCons (mVar 0) mNil))) (mB fInt (mCons (mBin fIx (mVar 0) (mVar 1)) mNil)) (mBin fAdd (mBin fMul (mC (.int 71)) (mVar 1)) (mC (.int 29)))))
  (sSeq (sSet 3 (mBin fMod (mB fMax2 (mCons (mC (.int 0)) (mCons (mBin fSub (mB fAbs (mCons (mVar 2) mNil)) (mBin fPow (mC (.int 10)) (mC (.int 15)))) mNil))) (mBin fMul (mBin fPow (mC (.int 10)) (mC (.int 60))) (mBin fPow (mC (.int 10)) (mC (.int 60))))))
  (sRet (mDice (mLst (mCons (mVar 3) (mCons (mBin fAdd (mBin fAdd (mBin fAdd (mBin fMul (mBin fMod (mB fAbs (mCons (mVar 2) mNil)) (mC (.int 1152921504606846877))) (mC (.int 43))) (mBin fMul (mC (.int 1009)) (mVar 1))) (mBin fMul (mC (.int 31)) (mB fInt (mCons (mCmp fLt (mVar 2) (mC (.int 0))) mNil)))) (mC (.int 11))) (mCons (mC (.int 0)) mNil))))))))
def m_law_dice : FM := mFun 2 4 b_law_dice

def c_law_dice : FM := fun ds Q _ => ∃ (ns : List Int) (n : Nat), ds = [.script ns, .int n] ∧ Q .dice
theorem pow_ok1 : CPowD 10 15 := ⟨by decide, by decide⟩
theorem pow_ok2 : CPowD 10 60 := ⟨by decide, by decide⟩
theorem mul_big : IntMulOk (10 ^ 60) (10 ^ 60) := (wide_mul (a := 200) (b := 200) (by decide) (by decide) (by decide) (by decide) (by decide)).ok
theorem c_law_dice_ok : ∀ ds Q E, c_law_dice ds Q E → m_law_dice ds Q E := by
  rintro ds Q E ⟨ns, n, rfl, q⟩
  unfold m_law_dice b_law_dice
  walk_at "dl"
  split
  · rename_i h
    obtain ⟨x, ex, _⟩ := atI_of (xs := ns) (i := (n : Int)) (by omega) (by simpa using h)
    exact ⟨x, ex, pow_ok1, pow_ok2, pow_ok2, mul_big, by decide, mul_r (by decide) (by decide), mul_l (by decide) (by decide), mul_l (by decide) (by decide), ⟨_, _, _, rfl, rfl, rfl⟩, q⟩
  · exact ⟨mul_l (by decide) (by decide), pow_ok1, pow_ok2, pow_ok2, mul_big, by decide, mul_r (by decide) (by decide), mul_l (by decide) (by decide), mul_l (by decide) (by decide), ⟨_, _, _, rfl, rfl, rfl⟩, q⟩

/-- _law_met -/
def b_law_met (f : Addr) (Hc : Hp) (tl : TL) : SM :=
  (sSeq (sTry xnames xisa (sExpr (mThk 0 f Hc tl)) [("InvalidStore", (hPlain (sRet (mC (.str "store"))))), ("InvalidOperation", (hPlain (sRet (mC (.str "operation"))))), ("InvalidNumber", (hAs 1 fun a dd => (sRet (mBin fAdd (mC (.str "number ")) (mRepr (mEF 1 a dd "value")))))), ("ParseError", (hAs 1 fun a dd => (sRet (mBin fAdd (mC (.str "parse ")) (mRepr (mEF 1 a dd "line")))))), ("TooMany", (hAs 1 fun a dd => (sRet (mBin fAdd (mC (.str "many ")) (mRepr (mEF 1 a dd "limit"))))))])
  (sRet (mC (.str ""))))
def m_law_met : TL → TL := fun tl Q E => ∀ f Hc, mFun 1 2 (b_law_met f Hc tl) [.opq f Hc] Q E

def metH : List (Str × Str × Option Str) := [("InvalidStore", "store", none), ("InvalidOperation", "operation", none), ("InvalidNumber", "number ", some "value"), ("ParseError", "parse ", some "line"), ("TooMany", "many ", some "limit")]
theorem met_of {tl : TL} {Q : D → Prop} {E : Er → Prop} (h : tl (fun _ => Q (.str "")) fun er => er.cls ∈ xnames ∧ metG xisa Q E er metH) : m_law_met tl Q E := by
  unfold m_law_met b_law_met
  walk_at "dl"
  exact fun _ _ => h
abbrev metE (Q : D → Prop) (E : Er → Prop) (er : Er) : Prop := er.cls ∈ xnames ∧ metG xisa Q E er metH
theorem met_store {Q : D → Prop} {E : Er → Prop} (q : Q (.str "store")) : metE Q E (noE' "InvalidStore") := ⟨by decide +kernel, metG_plain (c := "InvalidStore") (by decide +kernel) q⟩
theorem met_oper {Q : D → Prop} {E : Er → Prop} (q : Q (.str "operation")) : metE Q E (noE' "InvalidOperation") := ⟨by decide +kernel, metG_plain (c := "InvalidOperation") (by decide +kernel) q⟩
theorem met_num {Q : D → Prop} {E : Er → Prop} {d : D} {n k : Nat} (h : Sh n k d) (hn : n ≤ 16000000) (hk : k ≤ 60) (q : Q (.str ("number " ++ d.py.shown))) : metE Q E (numE d) :=
  ⟨(by decide +kernel : ("InvalidNumber" : Str) ∈ xnames), metG_val (c := "InvalidNumber") rfl h hn hk (by decide +kernel) q (by rfl)⟩
theorem met_many {Q : D → Prop} {E : Er → Prop} (q : Q (.str "many 40")) : metE Q E manyE :=
  ⟨by decide +kernel, metG_val (c := "TooMany") (t := "many ") (f := "limit") rfl (Sh_int (i := 40) (by decide)) (by decide) (by decide) (by decide +kernel) (by rw [show ("many " : Str) ++ (D.int 40).py.shown = "many 40" by decide +kernel]; exact q) (by rfl)⟩

/-- Store.capped -/
def b_Store_capped : SM :=
  (sSeq (sExpr (mCall c_require_size (mCons (mVar 1) mNil)))
  (sRet (mCall c_store_of (mCons (mComp [2, 3] (mSeq (mFld "Store" (mVar 0) "own_runs")) (gT 2 (gsCons (gN 2) (gsCons (gN 3) gsNil))) mYes (mTup (mCons (mB fMin2 (mCons (mVar 1) (mCons (mVar 2) mNil))) (mCons (mVar 3) mNil)))) mNil))))
def m_Store_capped : FM := mFun 2 4 b_Store_capped

def c_Store_capped : FM := fun ds Q E => ∃ (L : Runs) (d : D), ds = [storeD L, d] ∧ d.tyn.isSome = true ∧ L.length ≤ 1000 ∧ if sizD d = true then Q (storeD (mergeT (L.map fun p => (minI (iOf d) p.1, p.2)))) else E (numE d)
theorem c_Store_capped_ok : ∀ ds Q E, c_Store_capped ds Q E → m_Store_capped ds Q E := by
  rintro ds Q E ⟨L, d, rfl, ht, hl, q⟩
  unfold m_Store_capped b_Store_capped
  walk_at "dl"
  refine ⟨d, rfl, ht, ?_⟩
  cases hd : sizD d with
  | false =>
    rw [hd, if_neg (by decide)] at q
    rw [if_neg (by decide)]
    exact q
  | true =>
    rw [hd, if_pos rfl] at q
    rw [if_pos rfl]
    obtain ⟨s, rfl, s0, s1⟩ := siz_int hd
    refine ⟨_, rfl, _, rfl, .inr ⟨_, rfl, ?_⟩⟩
    refine compL_map (fun d => match d with | .tup [.int x, .int y] => pairD (minI s x, y) | _ => .none) (fun d hd R S hR => ?_) ?_
    · obtain ⟨p, hp, rfl⟩ := List.mem_map.mp hd
      refine ⟨_, rfl, rfl, _, _, rfl, _, _, rfl, rfl, ?_⟩
      walk_at "dl"
      exact hR
    · refine ⟨L.map fun p : Int × Int => (minI s p.1, p.2), .inr (by rw [List.nil_append, List.map_map, List.map_map] <;> rfl), by rw [List.length_map]; omega, q⟩

/-- Store.cut -/
def b_Store_cut : SM :=
  (sSeq (sExpr (mCall c_require_size (mCons (mVar 1) mNil)))
  (sRet (mCall c_store_of (mCons (mComp [2, 3] (mSeq (mFld "Store" (mVar 0) "own_runs")) (gT 2 (gsCons (gN 2) (gsCons (gN 3) gsNil))) (mCmpT fGe (mVar 2) (mVar 1)) (mTup (mCons (mBin fSub (mVar 2) (mBin fMod (mVar 2) (mVar 1))) (mCons (mVar 3) mNil)))) mNil))))
def m_Store_cut : FM := mFun 2 4 b_Store_cut

def cutT (L : Runs) (s : Int) : Runs := (L.filter fun p => decide (p.1 ≥ s)).map fun p => (p.1 - p.1 % s, p.2)
def c_Store_cut : FM := fun ds Q E => ∃ (L : Runs) (d : D), ds = [storeD L, d] ∧ d.tyn.isSome = true ∧ L.length ≤ 1000 ∧ if sizD d = true then Q (storeD (mergeT (cutT L (iOf d)))) else E (numE d)
theorem c_Store_cut_ok : ∀ ds Q E, c_Store_cut ds Q E → m_Store_cut ds Q E := by
  rintro ds Q E ⟨L, d, rfl, ht, hl, q⟩
  unfold m_Store_cut b_Store_cut
  walk_at "dl"
  refine ⟨d, rfl, ht, ?_⟩
  cases hd : sizD d with
  | false =>
    rw [hd, if_neg (by decide)] at q
    rw [if_neg (by decide)]
    exact q
  | true =>
    rw [hd, if_pos rfl] at q
    rw [if_pos rfl]
    obtain ⟨s, rfl, s0, s1⟩ := siz_int hd
    refine ⟨_, rfl, _, rfl, .inr ⟨_, rfl, ?_⟩⟩
    refine compL_det (fun d => match d with | .tup [.int x, .int y] => decide (x ≥ s) | _ => false) (fun d => match d with | .tup [.int x, .int y] => pairD (x - x % s, y) | _ => .none) (fun d hd R S hR => ?_) ?_
    · obtain ⟨p, hp, rfl⟩ := List.mem_map.mp hd
      refine ⟨_, rfl, rfl, _, _, rfl, _, _, rfl, rfl, ?_⟩
      walk_at "dl"
      have hR : if decide (p.1 ≥ s) = true then R (pairD (p.1 - p.1 % s, p.2)) else S := hR
      split at hR
      · rename_i h
        rw [if_pos h]
        exact ⟨Int.lt_of_lt_of_le Int.zero_lt_one s0, hR⟩
      · rename_i h
        rw [if_neg h]
        exact hR
    · refine ⟨cutT L s, .inr (by unfold cutT; rw [List.nil_append, List.filter_map, List.map_map, List.map_map] <;> rfl), ?_, q⟩
      unfold cutT
      rw [List.length_map]
      have := List.length_filter_le (fun p : Int × Int => decide (p.1 ≥ s)) L
      omega

/-- Store.part -/
def b_Store_part : SM :=
  (sSeq (sIf (mOrT (mNotT (mTest (mCall c_is_count (mCons (mVar 1) mNil)))) (mCmpT fGt (mVar 1) (mProp "Store" c_Store_number (mVar 0))))
  (sRaise "InvalidNumber" "value" (mVar 1))
  sNext)
  (sSeq (sIf (mOrT (mNotT (mTest (mCall c_is_count (mCons (mVar 2) mNil)))) (mNotT (mChainT fLe fLe (mVar 1) (mVar 2) (mProp "Store" c_Store_number (mVar 0)))))
  (sRaise "InvalidNumber" "value" (mVar 2))
  sNext)
  (sRet (mCall c_store_of (mCons (mCall c_runs_between (mCons (mFld "Store" (mVar 0) "own_runs") (mCons (mVar 1) (mCons (mVar 2) mNil)))) mNil)))))
def m_Store_part : FM := mFun 3 3 b_Store_part

def c_Store_part : FM := fun ds Q E => ∃ (L : Runs) (a b : D), ds = [storeD L, a, b] ∧ L.length ≤ 1000 ∧ a.tyn.isSome = true ∧ b.tyn.isSome = true ∧ if (cntD a && decide (iOf a ≤ numT L)) = true then (if (cntD b && (decide (iOf a ≤ iOf b) && decide (iOf b ≤ numT L))) = true then Q (storeD (mergeT (betw (iOf a) (iOf b) L 0))) else E (numE b)) else E (numE a)
theorem c_Store_part_ok : ∀ ds Q E, c_Store_part ds Q E → m_Store_part ds Q E := by
  rintro ds Q E ⟨L, a, b, rfl, hl, ta, tb, q⟩
  unfold m_Store_part b_Store_part
  walk_at "dl"
  refine isC ta ⟨_, rfl, ?_⟩
  cases ha : cntD a with
  | false =>
    rw [ha, Bool.false_and, if_neg (by decide)] at q
    rw [if_pos (by decide)]
    exact q
  | true =>
    obtain ⟨i, rfl, i0, i1⟩ := cnt_int ha
    rw [ha, Bool.true_and] at q
    rw [if_neg (by decide)]
    refine ⟨_, rfl, L, rfl, ?_⟩
    walk_at "dl"
    by_cases hi : i ≤ numT L
    · rw [if_pos (show decide (iOf (D.int i) ≤ numT L) = true from decide_eq_true hi)] at q
      rw [if_neg (by rw [decide_eq_true_eq]; omega)]
      refine isC tb ⟨_, rfl, ?_⟩
      cases hb : cntD b with
      | false =>
        rw [hb, Bool.false_and, if_neg (by decide)] at q
        rw [if_pos (by decide)]
        exact q
      | true =>
        obtain ⟨j, rfl, j0, j1⟩ := cnt_int hb
        rw [hb, Bool.true_and] at q
        rw [if_neg (by decide)]
        walk_at "dl"
        have q2 : if (decide (i ≤ j) && decide (j ≤ numT L)) = true then Q (storeD (mergeT (betw i j L 0))) else E (numE (.int j)) := q
        by_cases h1 : i ≤ j
        · rw [if_pos (decide_eq_true h1)]
          refine ⟨_, rfl, L, rfl, ?_⟩
          walk_at "dl"
          rw [decide_eq_true h1, Bool.true_and] at q2
          by_cases h2 : j ≤ numT L
          · rw [if_pos (decide_eq_true h2)] at q2
            rw [if_neg (by rw [decide_eq_true h2]; decide)]
            have b1 := betw_len i j L 0
            exact ⟨_, rfl, _, rfl, L, i, j, rfl, by omega, betw i j L 0, .inr rfl, by omega, q2⟩
          · rw [if_neg (by rw [decide_eq_true_eq]; exact h2)] at q2
            rw [if_pos (by rw [decide_eq_false h2]; decide)]
            exact q2
        · rw [decide_eq_false h1, Bool.false_and, if_neg (by decide)] at q2
          rw [if_neg (by rw [decide_eq_true_eq]; exact h1)]
          exact q2
    · rw [if_neg (show ¬ decide (iOf (D.int i) ≤ numT L) = true from fun z => hi (of_decide_eq_true z))] at q
      rw [if_pos (by rw [decide_eq_true_eq]; omega)]
      exact q

/-- Store.room_at -/
def b_Store_room_at : SM :=
  (sSeq (sIf (mOrT (mNotT (mTest (mCall c_is_count (mCons (mVar 1) mNil)))) (mCmpT fGe (mVar 1) (mProp "Store" c_Store_number (mVar 0))))
  (sRaise "InvalidNumber" "value" (mVar 1))
  sNext)
  (sSeq (sSet 2 (mVar 1))
  (sSeq (sFor (mSeq (mFld "Store" (mVar 0) "own_runs")) (gT 2 (gsCons (gN 3) (gsCons (gN 4) gsNil)))
  (sSeq (sIf (mCmpT fLt (mVar 2) (mVar 4))
    sBreak
    sNext)
    (sAug 2 fAugSub (mVar 4))))
  (sRet (mVar 3)))))
def m_Store_room_at : FM := mFun 2 5 b_Store_room_at

/-- the room of the i-th one: some room -/
def c_Store_room_at : FM := fun ds Q E => ∃ (L : Runs) (a : D), ds = [storeD L, a] ∧ a.tyn.isSome = true ∧ if (cntD a && decide (iOf a < numT L)) = true then (∀ p, p ∈ L → Q (.int p.1)) else E (numE a)
theorem c_Store_room_at_ok : ∀ ds Q E, c_Store_room_at ds Q E → m_Store_room_at ds Q E := by
  rintro ds Q E ⟨L, a, rfl, ta, q⟩
  unfold m_Store_room_at b_Store_room_at
  walk_at "dl"
  refine isC ta ⟨_, rfl, ?_⟩
  cases ha : cntD a with
  | false =>
    rw [ha, Bool.false_and, if_neg (by decide)] at q
    rw [if_pos (by decide)]
    exact q
  | true =>
    obtain ⟨i, rfl, i0, i1⟩ := cnt_int ha
    rw [ha, Bool.true_and] at q
    rw [if_neg (by decide)]
    refine ⟨_, rfl, L, rfl, ?_⟩
    walk_at "dl"
    by_cases hi : i < numT L
    · rw [if_pos (show decide (iOf (D.int i) < numT L) = true from decide_eq_true hi)] at q
      rw [if_neg (by rw [decide_eq_true_eq]; omega)]
      refine ⟨_, rfl, _, rfl, .inr ⟨_, rfl, ?_⟩⟩
      have hne : L ≠ [] := fun z => by
        rw [z] at hi
        have : numT [] = 0 := rfl
        omega
      refine forL_inv (fun k δ => ∃ (x : Int) (y z : DV), δ = [DV.v (storeD L), .v (.int i), .v (.int x), y, z] ∧ (k ≠ 0 → ∃ p, p ∈ L ∧ y = .v (.int p.1))) (fun k d δ N hd ⟨x, y, z, hδ, hy⟩ hN => ?_) ⟨i, .u, .u, rfl, fun h => absurd rfl h⟩ fun δ ⟨x, y, z, hδ, hy⟩ => ?_
      · subst hδ
        rw [List.getElem?_map, Option.map_eq_some_iff] at hd
        obtain ⟨p, hp, rfl⟩ := hd
        have hm := List.mem_of_getElem? hp
        rw [show pairD p = D.tup [D.int p.1, D.int p.2] from rfl]
        walk_at "dl"
        split
        · exact q p hm
        · exact hN _ ⟨_, _, _, rfl, fun _ => ⟨p, hm, rfl⟩⟩
      · subst hδ
        obtain ⟨p, hp, rfl⟩ := hy (by rw [List.length_map]; exact fun z => hne (List.length_eq_zero_iff.mp z))
        walk_at "dl"
        exact q p hp
    · rw [if_neg (show ¬ decide (iOf (D.int i) < numT L) = true from fun z => hi (of_decide_eq_true z))] at q
      rw [if_pos (by rw [decide_eq_true_eq]; omega)]
      exact q

/-- space_in -/
def b_space_in : SM :=
  (sRet (mB fSum (mCons (mComp [2, 3] (mSeq (mVar 0)) (gT 2 (gsCons (gN 2) (gsCons (gN 3) gsNil))) mYes (mBin fMul (mVar 3) (mBin fDiv (mVar 2) (mVar 1)))) mNil)))
def m_space_in : FM := mFun 2 4 b_space_in

theorem div_ok' {i j : Int} (h : 1 ≤ j) (h' : j < 10 ^ 200) : CDivW i j := wide_div (b := 700) (by omega) (by
  have : j.natAbs < 10 ^ 200 := by
    have := Int.natAbs_of_nonneg (show 0 ≤ j by omega)
    omega
  exact Nat.lt_trans this (by decide +kernel)) (by decide) (by decide)
def spaceT (L : Runs) (s : Int) : Int := (L.map fun p => p.2 * (p.1 / s)).sum
def c_space_in : FM := fun ds Q _ => ∃ (L : Runs) (s : Int), ds = [.tup (L.map pairD), .int s] ∧ 1 ≤ s ∧ s < 10 ^ 200 ∧ (∀ p, p ∈ L → IntMulOk p.2 (p.1 / s)) ∧ Q (.int (spaceT L s))
theorem c_space_in_ok : ∀ ds Q E, c_space_in ds Q E → m_space_in ds Q E := by
  rintro ds Q E ⟨L, s, rfl, hs, hs', hm, q⟩
  unfold m_space_in b_space_in
  walk_at "dl"
  refine compL_map (fun d => match d with | .tup [.int x, .int y] => .int (y * (x / s)) | _ => .none) (fun d hd R S hR => ?_) ?_
  · obtain ⟨p, hp, rfl⟩ := List.mem_map.mp hd
    refine ⟨_, rfl, rfl, _, _, rfl, _, _, rfl, rfl, ?_⟩
    walk_at "dl"
    exact ⟨div_ok' hs hs', hm p hp, hR⟩
  · exact ⟨L.map fun p : Int × Int => p.2 * (p.1 / s), by rw [List.nil_append, List.map_map, List.map_map] <;> rfl, q⟩

/-- Store.units -/
def b_Store_units : SM :=
  (sSeq (sExpr (mCall c_require_size (mCons (mVar 1) mNil)))
  (sRet (mCall c_space_in (mCons (mFld "Store" (mVar 0) "own_runs") (mCons (mVar 1) mNil)))))
def m_Store_units : FM := mFun 2 2 b_Store_units

def c_Store_units : FM := fun ds Q E => ∃ (L : Runs) (d : D), ds = [storeD L, d] ∧ d.tyn.isSome = true ∧ (∀ s, 1 ≤ s → ∀ p, p ∈ L → IntMulOk p.2 (p.1 / s)) ∧ if sizD d = true then Q (.int (spaceT L (iOf d))) else E (numE d)
theorem c_Store_units_ok : ∀ ds Q E, c_Store_units ds Q E → m_Store_units ds Q E := by
  rintro ds Q E ⟨L, d, rfl, ht, hm, q⟩
  unfold m_Store_units b_Store_units
  walk_at "dl"
  refine ⟨d, rfl, ht, ?_⟩
  cases hd : sizD d with
  | false =>
    rw [hd, if_neg (by decide)] at q
    rw [if_neg (by decide)]
    exact q
  | true =>
    rw [hd, if_pos rfl] at q
    rw [if_pos rfl]
    obtain ⟨s, rfl, s0, s1⟩ := siz_int hd
    exact ⟨_, rfl, _, rfl, L, s, rfl, s0, s1, hm s s0, q⟩

/-- Store.runs -/
def b_Store_runs : SM :=
  (sRet (mFld "Store" (mVar 0) "own_runs"))
def m_Store_runs : FM := mFun 1 1 b_Store_runs

def c_Store_runs : FM := fun ds Q _ => ∃ L : Runs, ds = [storeD L] ∧ Q (.tup (L.map pairD))
theorem c_Store_runs_ok : ∀ ds Q E, c_Store_runs ds Q E → m_Store_runs ds Q E := by
  rintro ds Q E ⟨L, rfl, q⟩
  unfold m_Store_runs b_Store_runs
  walk_at "dl"
  exact ⟨_, rfl, _, rfl, q⟩

/-- _law_first -/
def b_law_first : SM :=
  (sSeq (sSet 1 (mComp [2] (mSeq (mVar 0)) (gN 2) (mCmpT fNe (mVar 2) (mC (.str ""))) (mVar 2)))
  (sRet (mIf (mCmpT fNe (mVar 1) (mLst mNil)) (mBin fIx (mVar 1) (mC (.int 0))) (mC (.str "")))))
def m_law_first : FM := mFun 1 3 b_law_first

theorem nn_str (a : Str) : (!eqD (.str a) (.str "")) = decide (a ≠ "") := by
  rw [eqD_str]
  by_cases h : a = ""
  · subst h; rfl
  · rw [decide_eq_true h]
    cases e : (a == ("" : Str)) with
    | true => exact absurd (beq_iff_eq.mp e) h
    | false => rfl
def c_law_first : FM := fun ds Q _ => ∃ a b : Str, ds = [.list [.str a, .str b]] ∧ okS a ∧ okS b ∧ Q (.str (if a ≠ "" then a else b))
theorem c_law_first_ok : ∀ ds Q E, c_law_first ds Q E → m_law_first ds Q E := by
  rintro ds Q E ⟨a, b, rfl, ha, hb, q⟩
  unfold m_law_first b_law_first
  walk_at "dl"
  have fs : ∀ x, okS x → (D.str x).fine = true := fun x h => (fineN_str (n := 0) h).fine (by decide)
  have fl : ∀ xs : List Str, (∀ x, x ∈ xs → okS x) → (D.list (xs.map .str)).fine = true := fun xs h => (fineN_list (n := 0) fun d hd => by
    obtain ⟨x, hx, rfl⟩ := List.mem_map.mp hd
    exact fineN_str (h x hx)).fine (by decide)
  refine compL_det (fun d => match d with | .str x => decide (x ≠ "") | _ => false) (fun d => d) (fun d hd R S hR => ?_) ?_
  · have : ∃ x, d = .str x ∧ okS x := by
      rcases List.mem_cons.mp hd with rfl | hd
      · exact ⟨a, rfl, ha⟩
      · rcases List.mem_cons.mp hd with rfl | hd
        · exact ⟨b, rfl, hb⟩
        · cases hd
    obtain ⟨x, rfl, hx⟩ := this
    walk_at "dl"
    refine ⟨fs _ hx, fs _ (okS_ofString ""), ?_⟩
    rw [nn_str]
    exact hR
  · rw [List.nil_append, List.map_id']
    by_cases h1 : a ≠ ""
    · rw [if_pos h1] at q
      by_cases h2 : b ≠ ""
      · rw [show [D.str a, .str b].filter _ = [a, b].map D.str by simp [h1, h2]]
        refine ⟨fl _ (by simp [ha, hb]), fl [] (by simp), ?_⟩
        rw [eqD_list, show eqAll (List.map D.str [a, b]) [] = false from rfl]
        simp only [Bool.not_false, if_true]
        exact ⟨_, by rfl, q⟩
      · rw [show [D.str a, .str b].filter _ = [a].map D.str by simp [h1, h2]]
        refine ⟨fl _ (by simp [ha]), fl [] (by simp), ?_⟩
        rw [eqD_list, show eqAll (List.map D.str [a]) [] = false from rfl]
        simp only [Bool.not_false, if_true]
        exact ⟨_, by rfl, q⟩
    · rw [if_neg h1] at q
      by_cases h2 : b ≠ ""
      · rw [show [D.str a, .str b].filter _ = [b].map D.str by simp [h1, h2]]
        refine ⟨fl _ (by simp [hb]), fl [] (by simp), ?_⟩
        rw [eqD_list, show eqAll (List.map D.str [b]) [] = false from rfl]
        simp only [Bool.not_false, if_true]
        exact ⟨_, by rfl, q⟩
      · rw [show [D.str a, .str b].filter _ = [].map D.str by simp [h1, h2]]
        refine ⟨fl _ (by simp), fl [] (by simp), ?_⟩
        rw [eqD_list]
        rw [show b = "" from Decidable.not_not.mp h2] at q
        exact q

/-- _law_is_int -/
def b_law_is_int : SM :=
  (sRet (mAnd (mB fIsi (mCons (mVar 0) (mCons (mC (.ty "int")) mNil))) (mAnd (mVal (mNotT (mTest (mB fIsi (mCons (mVar 0) (mCons (mC (.ty "bool")) mNil)))))) (mChain fLe fLt (mVar 1) (mVar 0) (mBin fPow (mBin fPow (mC (.int 10)) (mC (.int 50))) (mC (.int 4)))))))
def m_law_is_int : FM := mFun 2 2 b_law_is_int

def intL (l : Int) : D → Bool
  | .int i => decide (l ≤ i) && decide (i < 10 ^ 200)
  | _ => false
theorem c2_pow : CPowD 10 50 := ⟨by decide, by decide⟩
theorem c3_pow : CPowD (10 ^ 50) 4 := ⟨by decide, by decide⟩
theorem lim50 : ((10 : Int) ^ 50) ^ 4 = 10 ^ 200 := by decide +kernel
def c_law_is_int : FM := fun ds Q _ => ∃ (d : D) (l : Int), ds = [d, .int l] ∧ d.tyn.isSome = true ∧ Q (.bool (intL l d))
theorem c_law_is_int_ok : ∀ ds Q E, c_law_is_int ds Q E → m_law_is_int ds Q E := by
  rintro ds Q E ⟨d, l, rfl, ht, q⟩
  unfold m_law_is_int b_law_is_int
  walk_at "dl"
  rw [isi_int ht]
  refine ⟨_, rfl, ?_⟩
  cases d with
  | int i =>
    rw [show (D.int i).isI = true from rfl, if_pos rfl, isi_bool ht]
    refine ⟨_, rfl, ?_⟩
    rw [show (D.int i).isB = false from rfl]
    walk_at "dl"
    rw [lim50]
    simp only [intL] at q
    cases h1 : decide (l ≤ i) with
    | true =>
      rw [h1, Bool.true_and] at q
      rw [if_pos rfl]
      exact ⟨c2_pow, c3_pow, q⟩
    | false =>
      rw [h1, Bool.false_and] at q
      rw [if_neg (by decide)]
      exact q
  | bool b =>
    rw [show (D.bool b).isI = true from rfl, if_pos rfl, isi_bool ht]
    refine ⟨_, rfl, ?_⟩
    rw [show (D.bool b).isB = true from rfl, if_neg (by decide)]
    exact q
  | _ => exact q

/-- _law_pick -/
def b_law_pick : SM :=
  (sRet (mBin fIx (mVar 1) (mCall mRoll (mCons (mVar 0) (mCons (mB fLen (mCons (mVar 1) mNil)) mNil)))))
def m_law_pick : FM := mFun 2 2 b_law_pick

def c_law_pick : FM := fun ds Q _ => ∃ xs : List D, ds = [.dice, .list xs] ∧ 0 < xs.length ∧ xs.length < 1073741824 ∧ ∀ x, x ∈ xs → Q x
theorem c_law_pick_ok : ∀ ds Q E, c_law_pick ds Q E → m_law_pick ds Q E := by
  rintro ds Q E ⟨xs, rfl, h0, h1, q⟩
  unfold m_law_pick b_law_pick
  walk_at "dl"
  refine ⟨_, rfl, by omega, by omega, fun r r0 r1 => ?_⟩
  obtain ⟨x, ex, hx⟩ := atI_of r0 r1
  exact ⟨x, ex, q x hx⟩

/-- _law_word -/
def b_law_word : SM :=
  (sSeq (sSet 3 (mAnd (mCall c_law_is_int (mCons (mVar 0) (mCons (mVar 1) mNil))) (mOr (mCmp fIs (mVar 2) (mC .none)) (mCmp fLe (mVar 0) (mVar 2)))))
  (sRet (mIf (mTest (mVar 3)) (mC (.str "")) (mBin fAdd (mC (.str "number ")) (mRepr (mVar 0))))))
def m_law_word : FM := mFun 3 4 b_law_word

def oddV (d : D) : Prop := d.tyn.isSome = true ∧ Sh 4000 3 d
def oddB (d : D) : Bool := d.tyn.isSome && shB 4000 3 d
theorem oddB_ok {d : D} (h : oddB d = true) : oddV d := by
  simp only [oddB, Bool.and_eq_true] at h
  exact ⟨h.1, shB_ok h.2⟩
def numS (d : D) : Str := "number " ++ d.py.shown
def fineW (l : Int) (m d : D) : Bool := intL l d && (match m with | .int k => decide (iOf d ≤ k) | _ => true)
def wordS (b : Bool) (d : D) : Str := if b = true then "" else numS d
def c_law_word : FM := fun ds Q _ => ∃ (d m : D) (l : Int), ds = [d, .int l, m] ∧ oddV d ∧ (m = .none ∨ ∃ k, m = .int k) ∧ Q (.str (wordS (fineW l m d) d))
theorem c_law_word_ok : ∀ ds Q E, c_law_word ds Q E → m_law_word ds Q E := by
  rintro ds Q E ⟨d, m, l, rfl, ho, hm, q⟩
  unfold m_law_word b_law_word
  walk_at "dl"
  refine ⟨d, l, rfl, ho.1, _, rfl, ?_⟩
  have bad : Q (.str (numS d)) → fRepr [d] fun y => fAdd (.str "number ") y fun d => Q d := fun q => fRepr_word ho.2 (by decide) (by decide) (by decide +kernel) q
  cases hi : intL l d with
  | false =>
    rw [if_neg (by decide)]
    simp only [fineW, hi, Bool.false_and] at q
    exact bad q
  | true =>
    rw [if_pos rfl]
    rcases hm with rfl | ⟨k, rfl⟩
    · simp only [fineW, hi, Bool.true_and] at q
      exact q
    · rw [if_neg (show ¬ isNoneD (D.int k) = true from fun z => by cases z)]
      cases d with
      | int i =>
        walk_at "dl"
        have q : Q (.str (wordS (decide (i ≤ k)) (.int i))) := by
          have e : fineW l (.int k) (.int i) = decide (i ≤ k) := by unfold fineW; rw [hi, Bool.true_and] <;> rfl
          rw [← e]; exact q
        by_cases h : i ≤ k
        · rw [decide_eq_true h] at q
          rw [if_pos (decide_eq_true h)]
          exact q
        · rw [decide_eq_false h] at q
          rw [if_neg (by rw [decide_eq_true_eq]; exact h)]
          exact bad q
      | _ => cases hi

/-- _law_right -/
def b_law_right : SM :=
  (sSeq (sSet 2 (mLst (mCons (mC .none) (mCons (mNeg (mC (.int 1))) (mCons (mC (.str "3")) (mCons (mTup (mCons (mC (.int 3)) mNil)) (mCons (mLst (mCons (mC (.int 3)) mNil)) (mCons (mC (.dict [])) (mCons (mC (.bool true)) (mCons (mC (.str "x")) (mCons (mBin fPow (mBin fPow (mC (.int 10)) (mC (.int 50))) (mC (.int 4))) mNil)))))))))))
  (sSeq (sAsg (mTup (mCons (mCall c_law_pick (mCons (mVar 0) (mCons (mBin fAdd (mLst (mCons (mC (.int 0)) (mCons (mC (.int 1)) (mCons (mC (.int 2)) (mCons (mC (.int 9)) mNil))))) (mVar 2)) mNil))) (mCons (mCall c_law_pick (mCons (mVar 0) (mCons (mBin fAdd (mLst (mCons (mC (.int 0)) (mCons (mC (.int 4)) (mCons (mC (.int 5)) (mCons (mC (.int 6)) mNil))))) (mVar 2)) mNil))) mNil))) (gT 2 (gsCons (gN 3) (gsCons (gN 4) gsNil))))
  (sSeq (sSet 5 (mCall c_law_pick (mCons (mVar 0) (mCons (mBin fAdd (mLst (mCons (mC (.int 0)) (mCons (mC (.int 2)) (mCons (mC (.int 4)) (mCons (mC (.int 5)) (mCons (mC (.int 6)) mNil)))))) (mVar 2)) mNil))))
  (sSeq (sSetM 6 (mLst (mCons (mThunk m_law_met (mMeth "Store" "units" c_Store_units (mVar 1) (mCons (mVar 3) mNil))) mNil)))
  (sSeq (sApp 6 (mThunk m_law_met (mMeth "Store" "cut" c_Store_cut (mVar 1) (mCons (mVar 3) mNil))))
  (sSeq (sApp 6 (mThunk m_law_met (mMeth "Store" "capped" c_Store_capped (mVar 1) (mCons (mVar 3) mNil))))
  (sFrz 6 (sSeq (sIf (mCmpT fNe (mVar 6) (mRep (mLst (mCons (mCall c_law_word (mCons (mVar 3) (mCons (mC (.int 1)) (mCons (mC .none) mNil)))) mNil)) (mC (.int 3))))
  (sRet (mC (.bool false)))
  sNext)
  (sSeq (sIf (mCmpT fNe (mThunk m_law_met (mMeth "Store" "room_at" c_Store_room_at (mVar 1) (mCons (mVar 4) mNil))) (mCall c_law_word (mCons (mVar 4) (mCons (mC (.int 0)) (mCons (mC (.int 4)) mNil)))))
  (sRet (mC (.bool false)))
  sNext)
  (sSeq (sSet 7 (mIf (mAndT (mTest (mCall c_law_is_int (mCons (mVar 4) (mCons (mC (.int 0)) mNil)))) (mCmpT fLe (mVar 4) (mC (.int 5)))) (mVar 4) (mC (.int 0))))
  (sSeq (sSet 8 (mCall c_law_first (mCons (mLst (mCons (mCall c_law_word (mCons (mVar 4) (mCons (mC (.int 0)) (mCons (mC (.int 5)) mNil)))) (mCons (mCall c_law_word (mCons (mVar 5) (mCons (mVar 7) (mCons (mC (.int 5)) mNil)))) mNil))) mNil)))
  (sSeq (sIf (mCmpT fNe (mThunk m_law_met (mMeth "Store" "part" c_Store_part (mVar 1) (mCons (mVar 4) (mCons (mVar 5) mNil)))) (mVar 8))
  (sRet (mC (.bool false)))
  sNext)
  (sSeq (sSet 8 (mCall c_law_first (mCons (mLst (mCons (mCall c_law_word (mCons (mVar 4) (mCons (mC (.int 0)) (mCons (mC (.int 4)) mNil)))) (mCons (mCall c_law_word (mCons (mVar 3) (mCons (mC (.int 1)) (mCons (mC .none) mNil)))) mNil))) mNil)))
  (sSeq (sIf (mCmpT fNe (mThunk m_law_met (mMeth "Store" "exchanged" c_Store_exchanged (mVar 1) (mCons (mVar 4) (mCons (mVar 3) mNil)))) (mVar 8))
  (sRet (mC (.bool false)))
  sNext)
  (sSeq (sSet 9 (mCall c_law_pick (mCons (mVar 0) (mCons (mLst (mCons (mC .none) (mCons (mC (.int 0)) (mCons (mTup (mCons (mC (.int 1)) (mCons (mC (.int 1)) mNil))) (mCons (mC (.str "store")) (mCons (mTup mNil) (mCons (mLst mNil) (mCons (mProp "Store" c_Store_runs (mVar 1)) (mCons (mC (.dict [])) (mCons (mC (.bool true)) mNil)))))))))) mNil))))
  (sRet (mCmp fEq (mThunk m_law_met (mBinO "Store" c_Store_add (mVar 1) (mVar 9))) (mC (.str "operation")))))))))))))))))))
def m_law_right : FM := mFun 2 10 b_law_right

abbrev L0 : Runs := [(10, 2), (7, 3)]
theorem word_ok {d : D} {b : Bool} (h : oddV d) : okS (wordS b d) := by
  unfold wordS
  split
  · exact okS_ofString ""
  · exact okS_append (okS_ofString "number ") h.2.ok
theorem num_ne (d : D) : numS d ≠ "" := fun z => by
  have e : (numS d).length = ("" : Str).length := by rw [z]
  have e2 : (numS d).length = ("number " : Str).length + d.py.shown.length := Str.length_append _ _
  have e3 : ("number " : Str).length = 7 := by decide +kernel
  have e4 : ("" : Str).length = 0 := by decide +kernel
  omega
theorem same_word {x y : Str} {R : Bool → Prop} (hx : okS x) (e : x = y) (q : R false) : fNe (.str x) (.str y) R := by
  subst e
  exact fNe_same ((fineN_str (n := 0) hx).fine (by decide)) q
theorem L0_mul : ∀ s : Int, 1 ≤ s → ∀ p, p ∈ L0 → IntMulOk p.2 (p.1 / s) := fun s hs p hp => by
  rcases List.mem_cons.mp hp with rfl | hp
  · exact mul_l (by decide) (by decide)
  · rcases List.mem_cons.mp hp with rfl | hp
    · exact mul_l (by decide) (by decide)
    · cases hp
theorem wrd {b : Bool} {d : D} {R : D → Prop} {E : Er → Prop} {P : Prop} (ho : oddV d) (p : R (.str "") → P) (r : R (.str (wordS b d))) : if b = true then P else metE R E (numE d) := by
  cases b with
  | true => rw [if_pos rfl]; exact p r
  | false => rw [if_neg (by decide)]; exact met_num ho.2 (by decide) (by decide) r
theorem fine_le (k : Int) (a : D) : (cntD a && decide (iOf a ≤ k)) = fineW 0 (.int k) a := by cases a <;> rfl
theorem fine_lt (k : Int) (a : D) : (cntD a && decide (iOf a < k + 1)) = fineW 0 (.int k) a := by
  rw [← fine_le]
  congr 1
  exact decide_eq_decide.mpr (by omega)
theorem fine_siz (a : D) : sizD a = fineW 1 .none a := by
  cases a <;> first | rfl | (simp only [sizD, fineW, intL, Bool.and_true])
theorem fine_mid {j k : Int} (h : 0 ≤ j) (a : D) : (cntD a && (decide (j ≤ iOf a) && decide (iOf a ≤ k))) = fineW j (.int k) a := by
  cases a with
  | int i =>
    show ((decide (0 ≤ i) && decide (i < 10 ^ 200)) && (decide (j ≤ i) && decide (i ≤ k))) = ((decide (j ≤ i) && decide (i < 10 ^ 200)) && decide (i ≤ k))
    by_cases h1 : j ≤ i
    · rw [decide_eq_true h1, decide_eq_true (show 0 ≤ i by omega)]
      simp
    · rw [decide_eq_false h1]
      simp
  | _ => rfl
theorem first_bad {d : D} {b : Str} {K : Str → Prop} (k : K (numS d)) : K (if wordS false d ≠ "" then wordS false d else b) := by
  rw [if_pos (show wordS false d ≠ "" from num_ne d)]; exact k
theorem part_step {index last : D} {j : Int} {K : Bool → Prop} {E1 E2 E3 E4 : Er → Prop} (hi : oddV index) (hl : oddV last) (j0 : 0 ≤ j) (hj : fineW 0 (.int 5) index = true → j = iOf index) (k : K false) :
    c_law_word [index, .int 0, .int 5] (fun d => c_law_word [last, .int j, .int 5] (fun d3 => c_law_first [.list [d, d3]] (fun d => m_law_met (fun Q' E' => ∃ fs, storeD L0 = .obj "Store" fs ∧ fs.lookup ("part" : Str) = none ∧ c_Store_part [storeD L0, index, last] Q' E') (fun x => fNe x d K) E1) E2) E3) E4 := by
  refine ⟨index, .int 5, 0, rfl, hi, .inr ⟨5, rfl⟩, last, .int 5, j, rfl, hl, .inr ⟨5, rfl⟩, _, _, rfl, word_ok hi, word_ok hl, ?_⟩
  refine met_of ⟨_, rfl, rfl, L0, index, last, rfl, by decide, hi.1, hl.1, ?_⟩
  rw [show numT L0 = 5 from rfl, fine_le]
  cases h : fineW 0 (.int 5) index with
  | false =>
    rw [if_neg (by decide)]
    refine met_num hi.2 (by decide) (by decide) ?_
    exact first_bad (K := fun w => fNe (.str (numS index)) (.str w) K) (same_word (okS_append (okS_ofString "number ") hi.2.ok) rfl k)
  | true =>
    rw [if_pos rfl, if_neg (show ¬ wordS true index ≠ "" from fun z => z rfl), ← hj h, fine_mid j0]
    exact wrd hl (fun r => r) (same_word (word_ok hl) rfl k)
theorem exch_step {index size : D} {K : Bool → Prop} {E1 E2 E3 E4 : Er → Prop} (hi : oddV index) (hs : oddV size) (k : K false) :
    c_law_word [index, .int 0, .int 4] (fun d => c_law_word [size, .int 1, .none] (fun d3 => c_law_first [.list [d, d3]] (fun d => m_law_met (fun Q' E' => ∃ fs, storeD L0 = .obj "Store" fs ∧ fs.lookup ("exchanged" : Str) = none ∧ c_Store_exchanged [storeD L0, index, size] Q' E') (fun x => fNe x d K) E1) E2) E3) E4 := by
  refine ⟨index, .int 4, 0, rfl, hi, .inr ⟨4, rfl⟩, size, .none, 1, rfl, hs, .inl rfl, _, _, rfl, word_ok hi, word_ok hs, ?_⟩
  refine met_of ⟨_, rfl, rfl, L0, index, size, rfl, by decide, hi.1, hs.1, ?_⟩
  rw [show numT L0 = 4 + 1 from rfl, fine_lt]
  cases h : fineW 0 (.int 4) index with
  | false =>
    rw [if_neg (by decide)]
    refine met_num hi.2 (by decide) (by decide) ?_
    exact first_bad (K := fun w => fNe (.str (numS index)) (.str w) K) (same_word (okS_append (okS_ofString "number ") hi.2.ok) rfl k)
  | true =>
    rw [if_pos rfl, if_neg (show ¬ wordS true index ≠ "" from fun z => z rfl), fine_siz]
    refine wrd hs (fun r => ?_) (same_word (word_ok hs) rfl k)
    have b1 := mergeT_len (exchT L0 (iOf index) (iOf size))
    have b2 := betw_len 0 (iOf index) L0 0
    have b3 := betw_len (iOf index + 1) (numT L0) L0 0
    have b4 : (exchT L0 (iOf index) (iOf size)).length ≤ 5 := by
      unfold exchT
      rw [List.length_append, List.length_cons]
      have : L0.length = 2 := rfl
      omega
    rw [if_pos (by omega)]
    exact r
def c_law_right : FM := fun ds Q _ => ds = [.dice, storeD L0] ∧ Q (.bool true)
theorem c_law_right_ok : ∀ ds Q E, c_law_right ds Q E → m_law_right ds Q E := by
  rintro ds Q E ⟨rfl, q⟩
  unfold m_law_right b_law_right
  walk_at "dl"
  rw [lim50]
  have pick : ∀ xs : List D, xs.all oddB = true → ∀ x, x ∈ xs → oddV x := fun xs h x hx => oddB_ok (all_of h x hx)
  refine ⟨c2_pow, c3_pow, _, rfl, by decide, by decide, fun size hs => ⟨_, rfl, by decide, by decide, fun index hi => ⟨_, rfl, by decide, by decide, fun last hl => ?_⟩⟩⟩
  have hs := pick _ (by decide +kernel) _ hs
  have hi := pick _ (by decide +kernel) _ hi
  have hl := pick _ (by decide +kernel) _ hl
  refine met_of ⟨_, rfl, rfl, L0, size, rfl, hs.1, L0_mul, wrd hs (fun r => r) ?_⟩
  refine met_of ⟨_, rfl, rfl, L0, size, rfl, hs.1, by decide, wrd hs (fun r => r) ⟨by decide, ?_⟩⟩
  refine met_of ⟨_, rfl, rfl, L0, size, rfl, hs.1, by decide, wrd hs (fun r => r) ⟨by decide, ?_⟩⟩
  refine ⟨size, .none, 1, rfl, hs, .inl rfl, _, _, rfl, rfl, by decide, by decide, (by rw [List.length_singleton]; decide), ?_⟩
  rw [← fine_siz]
  have w3 : (D.list [.str (wordS (sizD size) size), .str (wordS (sizD size) size), .str (wordS (sizD size) size)]).fine = true := (fineN_list (n := 0) fun d hd => by
    simp only [List.mem_cons, List.not_mem_nil, or_false] at hd
    rcases hd with rfl | rfl | rfl <;> exact fineN_str (word_ok hs)).fine (by decide)
  refine fNe_same w3 ?_
  rw [if_neg (by decide)]
  refine met_of ⟨_, rfl, rfl, L0, index, rfl, hi.1, ?_⟩
  rw [show numT L0 = 4 + 1 from rfl, fine_lt]
  refine wrd hi (fun r p hp => r) ⟨index, .int 4, 0, rfl, hi, .inr ⟨4, rfl⟩, same_word (word_ok hi) rfl ?_⟩
  rw [if_neg (by decide)]
  refine ⟨index, 0, rfl, hi.1, _, rfl, ?_⟩
  have cut3 : ∀ {G1 G2 G3 : Prop}, G1 → G2 → G3 → G1 ∧ G2 ∧ G3 := fun a b c => ⟨a, b, c⟩
  have ite3 : ∀ {A B : Prop}, (intL 0 index = true → A) → (intL 0 index = false → B) → if intL 0 index = true then A else B := fun a b => by
    cases h : intL 0 index with
    | true => rw [if_pos rfl]; exact a h
    | false => rw [if_neg (by decide)]; exact b h
  refine ite3 (fun hI => ?_) fun hI => ?_
  case' refine_1 =>
    obtain ⟨i, ei, i0, i1⟩ := cnt_int (d := index) (by rw [← hI]; cases index <;> rfl)
    subst ei
    walk_at "dl"
    by_cases h5 : i ≤ 5
    case' pos => rw [if_pos (decide_eq_true h5)]; refine part_step hi hl i0 (fun _ => rfl) ?_
    case' neg => rw [if_neg (by rw [decide_eq_true_eq]; exact h5)]; refine part_step hi hl (Int.le_refl 0) (fun z => absurd z (by unfold fineW; rw [hI, Bool.true_and, decide_eq_true_eq]; exact h5)) ?_
  case' refine_2 => refine part_step hi hl (Int.le_refl 0) (fun z => absurd z (by unfold fineW; rw [hI, Bool.false_and]; decide)) ?_
  all_goals
    rw [if_neg (by decide)]
    refine exch_step hi hs ?_
    rw [if_neg (by decide)]
    refine ⟨_, rfl, L0, rfl, _, rfl, by decide, by decide, fun other ho => ?_⟩
    have ho := pick _ (by decide +kernel) _ ho
    refine met_of ⟨_, rfl, .inl ho.1, L0, other, rfl, by decide, .inl ⟨ho.1, met_oper ?_⟩⟩
    exact fEq_same ((fineN_str (n := 0) (okS_ofString "operation")).fine (by decide)) q

/-- _law_row_of -/
def b_law_row_of : SM :=
  (sSeq (sSet 1 (mMake "Store" c_Store_init mNil))
  (sSeq (sFor (mRange1 (mCons (mVar 0) mNil)) (gN 2)
  (sSet 1 (mBinO "Store" c_Store_add (mVar 1) (mMake "Store" c_Store_init (mCons (mTup (mCons (mBin fAdd (mC (.int 1)) (mBin fMod (mVar 2) (mC (.int 2)))) (mCons (mC (.int 1)) mNil))) mNil)))))
  (sRet (mVar 1))))
def m_law_row_of : FM := mFun 1 3 b_law_row_of

def rowL (n : Nat) : Runs := (List.range n).map fun j : Nat => (1 + (j : Int) % 2, 1)
theorem rowL_succ (n : Nat) : rowL (n + 1) = rowL n ++ [(1 + (n : Int) % 2, 1)] := by unfold rowL; rw [List.range_succ, List.map_append] <;> rfl
theorem rowL_len (n : Nat) : (rowL n).length = n := by unfold rowL; rw [List.length_map, List.length_range]
theorem rowL_step (n : Nat) : mstep (rowL n) (1 + (n : Int) % 2, 1) = rowL (n + 1) := by
  rw [rowL_succ]
  cases n with
  | zero => rfl
  | succ n =>
    rw [rowL_succ, mstep_end, if_neg]
    show ¬ (1 + (n : Int) % 2 = 1 + ((n + 1 : Nat) : Int) % 2)
    omega
theorem rowL_merge (n : Nat) : mergeT (rowL n) = rowL n := by
  induction n with
  | zero => rfl
  | succ n ih =>
    have h := rowL_step n
    rw [rowL_succ] at h ⊢
    rw [mergeT_snoc, ih]
    exact h
def c_law_row_of : FM := fun ds Q _ => ∃ n : Nat, ds = [.int n] ∧ n ≤ 40 ∧ Q (storeD (rowL n))
theorem siz_dec {i : Int} (h : 1 ≤ i ∧ i < 2 ^ 60) : 1 ≤ i ∧ i < 10 ^ 200 := ⟨h.1, Int.lt_trans h.2 (by decide +kernel)⟩
theorem c_law_row_of_ok : ∀ ds Q E, c_law_row_of ds Q E → m_law_row_of ds Q E := by
  rintro ds Q E ⟨n, rfl, hn, q⟩
  unfold m_law_row_of b_law_row_of
  walk_at "dl"
  refine init_ok (M := []) (by decide) (fun p hp => by cases hp) (by decide) ⟨rfl, by omega, by omega, ?_⟩
  refine forL_inv (fun i δ => ∃ x, δ = [DV.v (.int n), .v (storeD (rowL i)), x]) (fun i d δ N hd ⟨x, hδ⟩ hN => ?_) ⟨.u, rfl⟩ fun δ ⟨x, hδ⟩ => ?_
  · subst hδ
    obtain ⟨hi, rfl⟩ := rangeD_get hd
    have hi : i < n := by simpa using hi
    walk_at "dl"
    refine init_ok (M := [(1 + (i : Int) % 2, 1)]) (by simp) (fun p hp => ?_) (Nat.le_trans (mergeT_len _) (by simp)) ⟨rfl, _, rfl, .inr ⟨_, rfl⟩, rowL i, _, rfl, by rw [rowL_len]; omega, .inr ⟨[(1 + (i : Int) % 2, 1)], rfl, by simp, ?_⟩⟩
    · rw [List.mem_singleton.mp hp]
      exact ⟨siz_dec (by omega), siz_dec (by omega)⟩
    · rw [mergeT_snoc, rowL_merge, rowL_step, rowL_len, if_pos (by omega)]
      exact hN _ ⟨_, rfl⟩
  · subst hδ
    walk_at "dl"
    rw [rangeD_length]
    exact q

/-- _law_runs_right -/
def b_law_runs_right : SM :=
  (sSeq (sSet 1 (mLst (mCons (mC .none) (mCons (mC (.int 0)) (mCons (mC (.int 5)) (mCons (mTup (mCons (mC (.int 1)) mNil)) (mCons (mTup (mCons (mC (.int 1)) (mCons (mC (.int 0)) mNil))) (mCons (mTup (mCons (mC (.int 0)) (mCons (mC (.int 1)) mNil))) (mCons (mTup (mCons (mC (.int 1)) (mCons (mNeg (mC (.int 1))) mNil))) (mCons (mTup (mCons (mC (.int 1)) (mCons (mC (.int 1)) (mCons (mC (.int 1)) mNil)))) (mCons (mLst (mCons (mC (.int 1)) (mCons (mC (.int 1)) mNil))) (mCons (mC (.str "11")) (mCons (mTup (mCons (mC (.str "1")) (mCons (mC (.int 1)) mNil))) (mCons (mTup (mCons (mC (.int 1)) (mCons (mC .none) mNil))) (mCons (mTup (mCons (mC (.bool true)) (mCons (mC (.int 1)) mNil))) (mCons (mTup (mCons (mC (.int 1)) (mCons (mC (.bool true)) mNil))) mNil))))))))))))))))
  (sSeq (sSet 2 (mCall c_law_pick (mCons (mVar 0) (mCons (mBin fAdd (mVar 1) (mLst (mCons (mC (.dict [])) (mCons (mTup mNil) (mCons (mTup (mCons (mTup (mCons (mC (.int 1)) (mCons (mC (.int 1)) mNil))) mNil)) (mCons (mTup (mCons (mC (.int 1)) (mCons (mBin fPow (mBin fPow (mC (.int 10)) (mC (.int 50))) (mC (.int 4))) mNil))) (mCons (mTup (mCons (mBin fPow (mBin fPow (mC (.int 10)) (mC (.int 50))) (mC (.int 4))) (mCons (mC (.int 1)) mNil))) mNil))))))) mNil))))
  (sSeq (sSetM 3 (mLst (mCons (mThunk m_law_met (mMake "Store" c_Store_init (mCons (mVar 2) mNil))) mNil)))
  (sSeq (sApp 3 (mThunk m_law_met (mMake "Store" c_Store_init (mCons (mTup (mCons (mC (.int 3)) (mCons (mC (.int 1)) mNil))) (mCons (mVar 2) mNil)))))
  (sSeq (sApp 3 (mThunk m_law_met (mMake "Store" c_Store_init (mCons (mVar 2) (mCons (mTup (mCons (mC (.int 3)) (mCons (mC (.int 1)) mNil))) mNil)))))
  (sSeq (sApp 3 (mThunk m_law_met (mMake "Store" c_Store_init (mCons (mTup (mCons (mC (.int 3)) (mCons (mBin fSub (mBin fPow (mBin fPow (mC (.int 10)) (mC (.int 50))) (mC (.int 4))) (mC (.int 1))) mNil))) mNil))))
  (sFrz 3 (sRet (mCmp fEq (mVar 3) (mBin fAdd (mRep (mLst (mCons (mC (.str "store")) mNil)) (mC (.int 3))) (mLst (mCons (mC (.str "")) mNil))))))))))))
def m_law_runs_right : FM := mFun 1 4 b_law_runs_right

def c_law_runs_right : FM := fun ds Q _ => ds = [.dice] ∧ Q (.bool true)
theorem c_law_runs_right_ok : ∀ ds Q E, c_law_runs_right ds Q E → m_law_runs_right ds Q E := by
  rintro ds Q E ⟨rfl, q⟩
  unfold m_law_runs_right b_law_runs_right
  walk_at "dl"
  rw [lim50]
  refine ⟨c2_pow, c3_pow, c2_pow, c3_pow, _, rfl, by decide, by decide, fun run hr => ?_⟩
  obtain ⟨ha, hb⟩ := oddRun_ok (all_of (p := oddRun) (by decide +kernel) _ hr)
  have a31 : runArg (.tup [.int 3, .int 1]) := run_arg (3, 1)
  have two : ∀ {x y : D}, runArg x → runArg y → ∀ d, d ∈ [x, y] → runArg d := fun hx hy d hd => by
    simp only [List.mem_cons, List.not_mem_nil, or_false] at hd
    rcases hd with rfl | rfl
    · exact hx
    · exact hy
  refine met_of (init_bad (by simp) (fun d hd => by rw [List.mem_singleton.mp hd]; exact ha) (by simp [hb]) fun _ => met_store ?_)
  refine met_of (init_bad (by simp) (two a31 ha) (by simp [hb]) fun _ => met_store ⟨by decide, ?_⟩)
  refine met_of (init_bad (by simp) (two ha a31) (by simp [hb]) fun _ => met_store ⟨by decide, ?_⟩)
  have b : (1 : Int) ≤ 10 ^ 200 - 1 := by decide +kernel
  refine met_of ⟨c2_pow, c3_pow, init_ok (M := [(3, 10 ^ 200 - 1)]) (by simp) (fun p hp => ?_) (Nat.le_trans (mergeT_len _) (by simp)) ⟨rfl, by decide, _, _, rfl, rfl, by decide, by decide, by simp, by simp, ?_⟩⟩
  · rw [List.mem_singleton.mp hp]
    exact ⟨siz_dec (by decide), b, by show (10 : Int) ^ 200 - 1 < 10 ^ 200; omega⟩
  · exact fEq_same (by decide +kernel) q

/-- law -/
def b_law : SM :=
  (sSeq (sSet 1 (mMake "Store" c_Store_init (mCons (mTup (mCons (mC (.int 10)) (mCons (mC (.int 2)) mNil))) (mCons (mTup (mCons (mC (.int 7)) (mCons (mC (.int 3)) mNil))) mNil))))
  (sSeq (sFor (mRange1 (mCons (mB fMax2 (mCons (mC (.int 1)) (mCons (mB fMin2 (mCons (mC (.int 8)) (mCons (mB fLen (mCons (mVar 0) mNil)) mNil))) mNil))) mNil)) (gN 2)
  (sSeq (sSet 3 (mCall c_law_dice (mCons (mVar 0) (mCons (mVar 2) mNil))))
    (sFor (mRange1 (mCons (mC (.int 3)) mNil)) (gN 4)
    (sIf (mOrT (mNotT (mTest (mCall c_law_right (mCons (mVar 3) (mCons (mVar 1) mNil))))) (mNotT (mTest (mCall c_law_runs_right (mCons (mVar 3) mNil)))))
      (sRet (mC (.bool false)))
      sNext))))
  (sSeq (sSet 5 (mCall c_law_row_of (mCons (mC (.int 40)) mNil)))
  (sSeq (sSetM 6 (mLst (mCons (mLenO "Store" c_Store_len (mVar 5)) (mCons (mThunk m_law_met (mBinO "Store" c_Store_add (mVar 5) (mMake "Store" c_Store_init (mCons (mTup (mCons (mC (.int 1)) (mCons (mC (.int 1)) mNil))) mNil)))) mNil))))
  (sSeq (sApp 6 (mThunk m_law_met (mBinO "Store" c_Store_add (mVar 5) (mMake "Store" c_Store_init (mCons (mTup (mCons (mC (.int 2)) (mCons (mC (.int 5)) mNil))) mNil)))))
  (sSeq (sApp 6 (mThunk m_law_met (mMeth "Store" "exchanged" c_Store_exchanged (mVar 5) (mCons (mC (.int 5)) (mCons (mC (.int 9)) mNil)))))
  (sSeq (sApp 6 (mThunk m_law_met (mMeth "Store" "exchanged" c_Store_exchanged (mMake "Store" c_Store_init (mCons (mTup (mCons (mC (.int 5)) (mCons (mC (.int 9)) mNil))) mNil)) (mCons (mC (.int 3)) (mCons (mC (.int 0)) mNil)))))
  (sSeq (sSet 7 (mBinO "Store" c_Store_add (mCall c_law_row_of (mCons (mC (.int 38)) mNil)) (mMake "Store" c_Store_init (mCons (mTup (mCons (mC (.int 7)) (mCons (mC (.int 5)) mNil))) mNil))))
  (sSeq (sApp 6 (mThunk m_law_met (mMeth "Store" "exchanged" c_Store_exchanged (mVar 7) (mCons (mC (.int 40)) (mCons (mC (.int 3)) mNil)))))
  (sSeq (sApp 6 (mThunk m_law_met (mMeth "Store" "exchanged" c_Store_exchanged (mVar 7) (mCons (mC (.int 42)) (mCons (mC (.int 3)) mNil)))))
  (sFrz 6 (sRet (mCmp fEq (mVar 6) (mLst (mCons (mC (.int 40)) (mCons (mC (.str "many 40")) (mCons (mC (.str "")) (mCons (mC (.str "")) (mCons (mC (.str "number 0")) (mCons (mC (.str "many 40")) (mCons (mC (.str "")) mNil)))))))))))))))))))))
def m_law : FM := mFun 1 8 b_law

theorem law_true : LawTrue m_law := by
  intro ns
  unfold m_law b_law
  walk_at "dl"
  intro hl
  refine init_ok (M := L0) (by simp) (fun p hp => ?_) (Nat.le_trans (mergeT_len _) (by simp)) ⟨rfl, ?_⟩
  · simp only [List.mem_cons, List.not_mem_nil, or_false] at hp
    rcases hp with rfl | rfl <;> exact ⟨siz_dec (by decide), siz_dec (by decide)⟩
  rw [show mergeT L0 = L0 by decide]
  refine ⟨by split <;> omega, by split <;> (try split) <;> omega, ?_⟩
  refine forL_inv (fun _ δ => ∃ a b c, δ = [DV.v (.script ns), .v (storeD L0), a, b, c, .u, .u, .u]) (fun i d δ N hd ⟨a, b, c, hδ⟩ hN => ?_) ⟨_, _, _, rfl⟩ fun δ ⟨a, b, c, hδ⟩ => ?_
  · subst hδ
    obtain ⟨k, hk, rfl⟩ := rangeD_mem (List.mem_of_getElem? hd)
    walk_at "dl"
    refine ⟨ns, k, rfl, ?_⟩
    walk_at "dl"
    refine forL_inv (fun _ δ => ∃ a b, δ = [DV.v (.script ns), .v (storeD L0), a, .v .dice, b, .u, .u, .u]) (fun i d δ N hd ⟨a, b, hδ⟩ hN => ?_) ⟨_, _, rfl⟩ fun δ ⟨a, b, hδ⟩ => ?_
    · subst hδ
      walk_at "dl"
      refine ⟨rfl, _, rfl, ?_⟩
      rw [if_neg (by decide)]
      refine ⟨rfl, _, rfl, ?_⟩
      rw [if_neg (by decide)]
      exact hN _ ⟨_, _, rfl⟩
    · subst hδ
      exact hN _ ⟨_, _, _, rfl⟩
  · subst hδ
    walk_at "dl"
    have m1 : (mergeT (rowL 40 ++ [(1, 1)])).length = 41 := by decide +kernel
    have m2 : (mergeT (rowL 40 ++ [(2, 5)])).length = 40 := by decide +kernel
    have m3 : (mergeT (exchT (rowL 40) 5 9)).length = 40 := by decide +kernel
    have wide : mergeT (rowL 38 ++ [(7, 5)]) = rowL 38 ++ [(7, 5)] := by decide +kernel
    have m4 : (mergeT (exchT (rowL 38 ++ [(7, 5)]) 40 3)).length = 41 := by decide +kernel
    have m5 : (mergeT (exchT (rowL 38 ++ [(7, 5)]) 42 3)).length = 40 := by decide +kernel
    have n1 : numT (rowL 40) = 40 := by decide +kernel
    have n2 : numT (rowL 38 ++ [(7, 5)]) = 43 := by decide +kernel
    have o1 : ∀ {x y : Int}, (1 ≤ x ∧ x < 2 ^ 60) → (1 ≤ y ∧ y < 2 ^ 60) → ∀ p, p ∈ ([(x, y)] : Runs) → (1 ≤ p.1 ∧ p.1 < 10 ^ 200) ∧ 1 ≤ p.2 ∧ p.2 < 10 ^ 200 := fun hx hy p hp => by
      rw [List.mem_singleton.mp hp]
      exact ⟨siz_dec hx, siz_dec hy⟩
    have l1 : ∀ {p : Int × Int}, (mergeT [p]).length ≤ 40 := fun {p} => Nat.le_trans (mergeT_len _) (by simp)
    refine ⟨40, rfl, by decide, _, rfl, _, rfl, _, rfl, by omega, by rw [rowL_len]; decide, ?_⟩
    refine met_of (init_ok (M := [(1, 1)]) (by simp) (o1 (by decide) (by decide)) l1 ⟨rfl, _, rfl, .inr ⟨_, rfl⟩, rowL 40, _, rfl, by rw [rowL_len]; decide, .inr ⟨[(1, 1)], rfl, by simp, ?_⟩⟩)
    rw [m1, if_neg (by decide)]
    refine met_many ?_
    refine met_of (init_ok (M := [(2, 5)]) (by simp) (o1 (by decide) (by decide)) l1 ⟨rfl, _, rfl, .inr ⟨_, rfl⟩, rowL 40, _, rfl, by rw [rowL_len]; decide, .inr ⟨[(2, 5)], rfl, by simp, ?_⟩⟩)
    rw [m2, if_pos (by decide)]
    refine ⟨by decide, met_of ⟨_, rfl, rfl, rowL 40, _, _, rfl, by rw [rowL_len]; decide, rfl, rfl, ?_⟩⟩
    rw [n1, if_pos (by decide +kernel), if_pos (by decide +kernel), if_pos (by rw [show iOf (D.int 5) = 5 from rfl, show iOf (D.int 9) = 9 from rfl, m3]; decide)]
    refine ⟨by decide, met_of (init_ok (M := [(5, 9)]) (by simp) (o1 (by decide) (by decide)) l1 ⟨rfl, _, rfl, rfl, [(5, 9)], _, _, rfl, by decide, rfl, rfl, ?_⟩)⟩
    rw [if_pos (by decide +kernel), if_neg (by decide +kernel)]
    refine met_num (Sh_int (i := 0) (by decide)) (by decide) (by decide) ⟨by decide, ?_⟩
    rw [show ("number " : Str) ++ (D.int 0).py.shown = "number 0" by decide +kernel]
    refine ⟨38, rfl, by decide, ?_⟩
    refine init_ok (M := [(7, 5)]) (by simp) (o1 (by decide) (by decide)) l1 ⟨rfl, _, rfl, .inr ⟨_, rfl⟩, rowL 38, _, rfl, by rw [rowL_len]; decide, .inr ⟨[(7, 5)], rfl, by simp, ?_⟩⟩
    rw [wide, if_pos (by rw [List.length_append, rowL_len]; decide)]
    refine met_of ⟨_, rfl, rfl, rowL 38 ++ [(7, 5)], _, _, rfl, by rw [List.length_append, rowL_len]; decide, rfl, rfl, ?_⟩
    rw [n2, if_pos (by decide +kernel), if_pos (by decide +kernel), if_neg (by rw [show iOf (D.int 40) = 40 from rfl, show iOf (D.int 3) = 3 from rfl, m4]; decide)]
    refine met_many ⟨by decide, ?_⟩
    refine met_of ⟨_, rfl, rfl, rowL 38 ++ [(7, 5)], _, _, rfl, by rw [List.length_append, rowL_len]; decide, rfl, rfl, ?_⟩
    rw [n2, if_pos (by decide +kernel), if_pos (by decide +kernel), if_pos (by rw [show iOf (D.int 42) = 42 from rfl, show iOf (D.int 3) = 3 from rfl, m5]; decide)]
    refine ⟨by decide, ?_⟩
    rw [rowL_len]
    exact fEq_same (by decide +kernel) rfl
end DL.Law

set_option Elab.async false
set_option linter.all false
set_option maxRecDepth 100000
set_option maxHeartbeats 4000000
namespace DL.Law
open DL
open PySem PySem.Spec PyProof.Rows L2
variable [TabsC]
def top (i : Nat) : Stmt := PySem.Challenge.pw_chainpacks_k18_errors_of_stores.main.body.getD i (.Pass ⟨0, 0, 0, 0⟩)
abbrev s_merged : Stmt := top 18
abbrev s_Row_init : Stmt := (inClass (top 20) 0)
abbrev s_is_integer : Stmt := top 3
abbrev s_is_size : Stmt := top 5
abbrev s_is_run : Stmt := top 17
abbrev s_Store_init : Stmt := (inClass (top 22) 0)
abbrev s_store_of : Stmt := top 19
abbrev s_few_runs : Stmt := top 24
abbrev s_Store_add : Stmt := (inClass (top 22) 17)
abbrev s_Store_number : Stmt := (inClass (top 22) 4)
abbrev s_is_count : Stmt := top 4
abbrev s_require_size : Stmt := top 14
abbrev s_runs_between : Stmt := top 23
abbrev s_Store_exchanged : Stmt := (inClass (top 22) 15)
abbrev s_Store_len : Stmt := (inClass (top 22) 19)
abbrev s_law_dice : Stmt := top 26
abbrev s_law_met : Stmt := top 29
abbrev s_Store_capped : Stmt := (inClass (top 22) 14)
abbrev s_Store_cut : Stmt := (inClass (top 22) 13)
abbrev s_Store_part : Stmt := (inClass (top 22) 10)
abbrev s_Store_room_at : Stmt := (inClass (top 22) 9)
abbrev s_space_in : Stmt := top 21
abbrev s_Store_units : Stmt := (inClass (top 22) 8)
abbrev s_Store_runs : Stmt := (inClass (top 22) 2)
abbrev s_law_first : Stmt := top 32
abbrev s_law_is_int : Stmt := top 30
abbrev s_law_roll : Stmt := top 27
abbrev s_law_pick : Stmt := top 28
abbrev s_law_word : Stmt := top 31
abbrev s_law_right : Stmt := top 33
abbrev s_law_row_of : Stmt := top 35
abbrev s_law_runs_right : Stmt := top 34
abbrev s_law : Stmt := top 36
structure Txt (K : PySem.W.Frag) (mg : Str → Option Value) (base : Heap) where
  C_Row : Addr
  n_Row : PySem.W.nsIn K mainGlobals "Row" = some (some (.ref C_Row))
  g_Row : mg "Row" = some (.ref C_Row)
  cl_Row : Cls K C_Row
  ki_Row : kitAll K C_Row = true
  C_Store : Addr
  n_Store : PySem.W.nsIn K mainGlobals "Store" = some (some (.ref C_Store))
  g_Store : mg "Store" = some (.ref C_Store)
  cl_Store : Cls K C_Store
  ki_Store : kitAll K C_Store = true
  kits : KitOwn K owns
  no_Row_own_runs : NoAttr K C_Row "own_runs"
  no_Store_own_runs : NoAttr K C_Store "own_runs"
  C_InvalidNumber : Addr
  n_InvalidNumber : PySem.W.nsIn K mainGlobals "InvalidNumber" = some (some (.ref C_InvalidNumber))
  g_InvalidNumber : mg "InvalidNumber" = some (.ref C_InvalidNumber)
  fi_InvalidNumber : Addr
  x_InvalidNumber : OwnX K C_InvalidNumber fi_InvalidNumber "InvalidNumber" "InvalidNumber.__init__" "value" [.type "IndexError", .type "LookupError", .type "Exception", .type "BaseException", .type "object"] "IndexError.__new__"
  xf_InvalidNumber : XfC K C_InvalidNumber
  C_InvalidOperation : Addr
  n_InvalidOperation : PySem.W.nsIn K mainGlobals "InvalidOperation" = some (some (.ref C_InvalidOperation))
  g_InvalidOperation : mg "InvalidOperation" = some (.ref C_InvalidOperation)
  xi_InvalidOperation : PySem.W.excIn K C_InvalidOperation [.type "ValueError", .type "Exception", .type "BaseException", .type "object"] "ValueError.__new__" = true
  kp_InvalidOperation : PySem.W.keepIn K (.ref C_InvalidOperation) = true
  sb_InvalidOperation : PySem.W.subIn K (.ref C_InvalidOperation) (.type "BaseException") = some true
  ty_InvalidOperation : PySem.W.typeIn K (.ref C_InvalidOperation) = some (.type "type")
  C_InvalidStore : Addr
  n_InvalidStore : PySem.W.nsIn K mainGlobals "InvalidStore" = some (some (.ref C_InvalidStore))
  g_InvalidStore : mg "InvalidStore" = some (.ref C_InvalidStore)
  xi_InvalidStore : PySem.W.excIn K C_InvalidStore [.type "ValueError", .type "Exception", .type "BaseException", .type "object"] "ValueError.__new__" = true
  kp_InvalidStore : PySem.W.keepIn K (.ref C_InvalidStore) = true
  sb_InvalidStore : PySem.W.subIn K (.ref C_InvalidStore) (.type "BaseException") = some true
  ty_InvalidStore : PySem.W.typeIn K (.ref C_InvalidStore) = some (.type "type")
  C_ParseError : Addr
  n_ParseError : PySem.W.nsIn K mainGlobals "ParseError" = some (some (.ref C_ParseError))
  g_ParseError : mg "ParseError" = some (.ref C_ParseError)
  fi_ParseError : Addr
  x_ParseError : OwnX K C_ParseError fi_ParseError "ParseError" "ParseError.__init__" "line" [.type "ValueError", .type "Exception", .type "BaseException", .type "object"] "ValueError.__new__"
  xf_ParseError : XfC K C_ParseError
  C_TooMany : Addr
  n_TooMany : PySem.W.nsIn K mainGlobals "TooMany" = some (some (.ref C_TooMany))
  g_TooMany : mg "TooMany" = some (.ref C_TooMany)
  fi_TooMany : Addr
  x_TooMany : OwnX K C_TooMany fi_TooMany "TooMany" "TooMany.__init__" "limit" [.type "OverflowError", .type "ArithmeticError", .type "Exception", .type "BaseException", .type "object"] "OverflowError.__new__"
  xf_TooMany : XfC K C_TooMany
  isa : HIsa K xnames xisa
  f_merged : Addr
  d_merged : FuncData
  F_merged : Fun K "merged" "merged" s_merged f_merged d_merged
  b_merged : Binds K d_merged ["runs"] []
  m_merged : mg "merged" = some (.ref f_merged)
  k_merged : PySem.W.keepIn K (.ref f_merged) = true
  f_Row_init : Addr
  d_Row_init : FuncData
  F_Row_init : Fun K "__init__" "Row.__init__" s_Row_init f_Row_init d_Row_init
  b_Row_init : Binds K d_Row_init ["self", "runs"] []
  mk_Row : Mk K C_Row f_Row_init
  f_is_integer : Addr
  d_is_integer : FuncData
  F_is_integer : Fun K "is_integer" "is_integer" s_is_integer f_is_integer d_is_integer
  b_is_integer : Binds K d_is_integer ["value"] []
  m_is_integer : mg "is_integer" = some (.ref f_is_integer)
  k_is_integer : PySem.W.keepIn K (.ref f_is_integer) = true
  f_is_size : Addr
  d_is_size : FuncData
  F_is_size : Fun K "is_size" "is_size" s_is_size f_is_size d_is_size
  b_is_size : Binds K d_is_size ["value"] []
  m_is_size : mg "is_size" = some (.ref f_is_size)
  k_is_size : PySem.W.keepIn K (.ref f_is_size) = true
  f_is_run : Addr
  d_is_run : FuncData
  F_is_run : Fun K "is_run" "is_run" s_is_run f_is_run d_is_run
  b_is_run : Binds K d_is_run ["value"] []
  m_is_run : mg "is_run" = some (.ref f_is_run)
  k_is_run : PySem.W.keepIn K (.ref f_is_run) = true
  f_Store_init : Addr
  d_Store_init : FuncData
  F_Store_init : Fun K "__init__" "Store.__init__" s_Store_init f_Store_init d_Store_init
  b_Store_init : ∀ us rest : List Value, us.length = (["self"] : List Str).length → bindArgs d_Store_init ⟨us ++ rest, []⟩ = (newTuple rest >>= fun t => pure ((["self"] : List Str).zip us ++ [(("runs" : Str), t)]))
  mk_Store : Mk K C_Store f_Store_init
  f_store_of : Addr
  d_store_of : FuncData
  F_store_of : Fun K "store_of" "store_of" s_store_of f_store_of d_store_of
  b_store_of : Binds K d_store_of ["runs"] []
  m_store_of : mg "store_of" = some (.ref f_store_of)
  k_store_of : PySem.W.keepIn K (.ref f_store_of) = true
  f_few_runs : Addr
  d_few_runs : FuncData
  F_few_runs : Fun K "few_runs" "few_runs" s_few_runs f_few_runs d_few_runs
  b_few_runs : Binds K d_few_runs ["runs"] []
  m_few_runs : mg "few_runs" = some (.ref f_few_runs)
  k_few_runs : PySem.W.keepIn K (.ref f_few_runs) = true
  f_Store_add : Addr
  d_Store_add : FuncData
  F_Store_add : Fun K "__add__" "Store.__add__" s_Store_add f_Store_add d_Store_add
  b_Store_add : Binds K d_Store_add ["self", "other"] []
  me_Store_add : Meth K C_Store "__add__" f_Store_add
  f_Store_number : Addr
  d_Store_number : FuncData
  F_Store_number : Fun K "number" "Store.number" s_Store_number f_Store_number d_Store_number
  b_Store_number : Binds K d_Store_number ["self"] []
  p_Store_number : Addr
  pr_Store_number : PropOf K C_Store "number" p_Store_number f_Store_number
  f_is_count : Addr
  d_is_count : FuncData
  F_is_count : Fun K "is_count" "is_count" s_is_count f_is_count d_is_count
  b_is_count : Binds K d_is_count ["value"] []
  m_is_count : mg "is_count" = some (.ref f_is_count)
  k_is_count : PySem.W.keepIn K (.ref f_is_count) = true
  f_require_size : Addr
  d_require_size : FuncData
  F_require_size : Fun K "require_size" "require_size" s_require_size f_require_size d_require_size
  b_require_size : Binds K d_require_size ["size"] []
  m_require_size : mg "require_size" = some (.ref f_require_size)
  k_require_size : PySem.W.keepIn K (.ref f_require_size) = true
  f_runs_between : Addr
  d_runs_between : FuncData
  F_runs_between : Fun K "runs_between" "runs_between" s_runs_between f_runs_between d_runs_between
  b_runs_between : Binds K d_runs_between ["runs", "first", "last"] []
  m_runs_between : mg "runs_between" = some (.ref f_runs_between)
  k_runs_between : PySem.W.keepIn K (.ref f_runs_between) = true
  f_Store_exchanged : Addr
  d_Store_exchanged : FuncData
  F_Store_exchanged : Fun K "exchanged" "Store.exchanged" s_Store_exchanged f_Store_exchanged d_Store_exchanged
  b_Store_exchanged : Binds K d_Store_exchanged ["self", "index", "room"] []
  me_Store_exchanged : Meth K C_Store "exchanged" f_Store_exchanged
  f_Store_len : Addr
  d_Store_len : FuncData
  F_Store_len : Fun K "__len__" "Store.__len__" s_Store_len f_Store_len d_Store_len
  b_Store_len : Binds K d_Store_len ["self"] []
  me_Store_len : Meth K C_Store "__len__" f_Store_len
  f_law_dice : Addr
  d_law_dice : FuncData
  F_law_dice : Fun K "_law_dice" "_law_dice" s_law_dice f_law_dice d_law_dice
  b_law_dice : Binds K d_law_dice ["script", "spot"] []
  m_law_dice : mg "_law_dice" = some (.ref f_law_dice)
  k_law_dice : PySem.W.keepIn K (.ref f_law_dice) = true
  f_law_met : Addr
  d_law_met : FuncData
  F_law_met : Fun K "_law_met" "_law_met" s_law_met f_law_met d_law_met
  b_law_met : Binds K d_law_met ["call"] []
  m_law_met : mg "_law_met" = some (.ref f_law_met)
  k_law_met : PySem.W.keepIn K (.ref f_law_met) = true
  f_Store_capped : Addr
  d_Store_capped : FuncData
  F_Store_capped : Fun K "capped" "Store.capped" s_Store_capped f_Store_capped d_Store_capped
  b_Store_capped : Binds K d_Store_capped ["self", "room"] []
  me_Store_capped : Meth K C_Store "capped" f_Store_capped
  f_Store_cut : Addr
  d_Store_cut : FuncData
  F_Store_cut : Fun K "cut" "Store.cut" s_Store_cut f_Store_cut d_Store_cut
  b_Store_cut : Binds K d_Store_cut ["self", "size"] []
  me_Store_cut : Meth K C_Store "cut" f_Store_cut
  f_Store_part : Addr
  d_Store_part : FuncData
  F_Store_part : Fun K "part" "Store.part" s_Store_part f_Store_part d_Store_part
  b_Store_part : Binds K d_Store_part ["self", "first", "last"] []
  me_Store_part : Meth K C_Store "part" f_Store_part
  f_Store_room_at : Addr
  d_Store_room_at : FuncData
  F_Store_room_at : Fun K "room_at" "Store.room_at" s_Store_room_at f_Store_room_at d_Store_room_at
  b_Store_room_at : Binds K d_Store_room_at ["self", "index"] []
  me_Store_room_at : Meth K C_Store "room_at" f_Store_room_at
  f_space_in : Addr
  d_space_in : FuncData
  F_space_in : Fun K "space_in" "space_in" s_space_in f_space_in d_space_in
  b_space_in : Binds K d_space_in ["runs", "size"] []
  m_space_in : mg "space_in" = some (.ref f_space_in)
  k_space_in : PySem.W.keepIn K (.ref f_space_in) = true
  f_Store_units : Addr
  d_Store_units : FuncData
  F_Store_units : Fun K "units" "Store.units" s_Store_units f_Store_units d_Store_units
  b_Store_units : Binds K d_Store_units ["self", "size"] []
  me_Store_units : Meth K C_Store "units" f_Store_units
  f_Store_runs : Addr
  d_Store_runs : FuncData
  F_Store_runs : Fun K "runs" "Store.runs" s_Store_runs f_Store_runs d_Store_runs
  b_Store_runs : Binds K d_Store_runs ["self"] []
  p_Store_runs : Addr
  pr_Store_runs : PropOf K C_Store "runs" p_Store_runs f_Store_runs
  f_law_first : Addr
  d_law_first : FuncData
  F_law_first : Fun K "_law_first" "_law_first" s_law_first f_law_first d_law_first
  b_law_first : Binds K d_law_first ["words"] []
  m_law_first : mg "_law_first" = some (.ref f_law_first)
  k_law_first : PySem.W.keepIn K (.ref f_law_first) = true
  f_law_is_int : Addr
  d_law_is_int : FuncData
  F_law_is_int : Fun K "_law_is_int" "_law_is_int" s_law_is_int f_law_is_int d_law_is_int
  b_law_is_int : Binds K d_law_is_int ["value", "least"] []
  m_law_is_int : mg "_law_is_int" = some (.ref f_law_is_int)
  k_law_is_int : PySem.W.keepIn K (.ref f_law_is_int) = true
  f_law_roll : Addr
  d_law_roll : FuncData
  F_law_roll : Fun K "_law_roll" "_law_roll" s_law_roll f_law_roll d_law_roll
  b_law_roll : Binds K d_law_roll ["dice", "total"] []
  m_law_roll : mg "_law_roll" = some (.ref f_law_roll)
  k_law_roll : PySem.W.keepIn K (.ref f_law_roll) = true
  f_law_pick : Addr
  d_law_pick : FuncData
  F_law_pick : Fun K "_law_pick" "_law_pick" s_law_pick f_law_pick d_law_pick
  b_law_pick : Binds K d_law_pick ["dice", "items"] []
  m_law_pick : mg "_law_pick" = some (.ref f_law_pick)
  k_law_pick : PySem.W.keepIn K (.ref f_law_pick) = true
  f_law_word : Addr
  d_law_word : FuncData
  F_law_word : Fun K "_law_word" "_law_word" s_law_word f_law_word d_law_word
  b_law_word : Binds K d_law_word ["value", "least", "most"] []
  m_law_word : mg "_law_word" = some (.ref f_law_word)
  k_law_word : PySem.W.keepIn K (.ref f_law_word) = true
  f_law_right : Addr
  d_law_right : FuncData
  F_law_right : Fun K "_law_right" "_law_right" s_law_right f_law_right d_law_right
  b_law_right : Binds K d_law_right ["dice", "store"] []
  m_law_right : mg "_law_right" = some (.ref f_law_right)
  k_law_right : PySem.W.keepIn K (.ref f_law_right) = true
  c_law_right : Addr
  P_law_right : Addr
  tb_law_right : LamX.TabB base mg c_law_right P_law_right
  tm_law_right : (P_law_right, ("_law_right.<locals>.<lambda>" : Str)) ∈ TabsC.T
  tu_law_right : ∀ p ∈ TabsC.T, p.1 = P_law_right → p.2 = ("_law_right.<locals>.<lambda>" : Str)
  f_law_row_of : Addr
  d_law_row_of : FuncData
  F_law_row_of : Fun K "_law_row_of" "_law_row_of" s_law_row_of f_law_row_of d_law_row_of
  b_law_row_of : Binds K d_law_row_of ["many"] []
  m_law_row_of : mg "_law_row_of" = some (.ref f_law_row_of)
  k_law_row_of : PySem.W.keepIn K (.ref f_law_row_of) = true
  f_law_runs_right : Addr
  d_law_runs_right : FuncData
  F_law_runs_right : Fun K "_law_runs_right" "_law_runs_right" s_law_runs_right f_law_runs_right d_law_runs_right
  b_law_runs_right : Binds K d_law_runs_right ["dice"] []
  m_law_runs_right : mg "_law_runs_right" = some (.ref f_law_runs_right)
  k_law_runs_right : PySem.W.keepIn K (.ref f_law_runs_right) = true
  c_law_runs_right : Addr
  P_law_runs_right : Addr
  tb_law_runs_right : LamX.TabB base mg c_law_runs_right P_law_runs_right
  tm_law_runs_right : (P_law_runs_right, ("_law_runs_right.<locals>.<lambda>" : Str)) ∈ TabsC.T
  tu_law_runs_right : ∀ p ∈ TabsC.T, p.1 = P_law_runs_right → p.2 = ("_law_runs_right.<locals>.<lambda>" : Str)
  f_law : Addr
  d_law : FuncData
  F_law : Fun K "law" "law" s_law f_law d_law
  b_law : Binds K d_law ["script"] []
  m_law : mg "law" = some (.ref f_law)
  k_law : PySem.W.keepIn K (.ref f_law) = true
  c_law : Addr
  P_law : Addr
  tb_law : LamX.TabB base mg c_law P_law
  tm_law : (P_law, ("law.<locals>.<lambda>" : Str)) ∈ TabsC.T
  tu_law : ∀ p ∈ TabsC.T, p.1 = P_law → p.2 = ("law.<locals>.<lambda>" : Str)
  bn_Store_add : BinO K C_Store f_Store_add .Add
  len_Store : LenO K C_Store f_Store_len
  cd_law_right : d_law_right.code = .ref c_law_right
  cd_law_runs_right : d_law_runs_right.code = .ref c_law_runs_right
  cd_law : d_law.code = .ref c_law
  z_abs : mg "abs" = none
  z_all : mg "all" = none
  z_bool : mg "bool" = none
  z_int : mg "int" = none
  z_isinstance : mg "isinstance" = none
  z_len : mg "len" = none
  z_max : mg "max" = none
  z_min : mg "min" = none
  z_range : mg "range" = none
  z_repr : mg "repr" = none
  z_sum : mg "sum" = none
  z_tuple : mg "tuple" = none
  t_LIMIT : Tok
  g_LIMIT : mg "LIMIT" = some (.int 100000000000000000000000000000000000000000000000000000000000000000000000000000000000000000000000000000000000000000000000000000000000000000000000000000000000000000000000000000000000000000000000000000000 t_LIMIT)
  t_MAX_RUNS : Tok
  g_MAX_RUNS : mg "MAX_RUNS" = some (.int 40 t_MAX_RUNS)
section
variable {P : Program} {w : World} {K : PySem.W.Frag} {mg : Str → Option Value} {base : Heap}
abbrev N_merged : List Str := ["runs", "found", "room", "many"]
theorem ok_merged (T : Txt K mg base) : FnD P w K mg base 1 T.f_merged c_merged := by
  have sc : FnScope N_merged ["runs"] (defScope s_merged) := ⟨rfl, rfl, rfl, by decide +kernel, rfl, by decide +kernel, by decide +kernel⟩
  have hN := sc.nd
  refine FnD.imp (fnD_of (m := b_merged) T.F_merged sc T.b_merged fun cdv A outer s H E hG hr => ?_) c_merged_ok
  exact (dss_cons (ds_setm 1 hN (df_lst da_nil))
  (dss_cons (ds_for (passes_of rfl) rfl (di_seq (ba := false) (de_var 0 (pv 0))) (dg_tup rfl (dgs_cons (dg_name 2 (pg_name hN rfl (by first | exact .inl rfl | exact .inr rfl))) (dgs_cons (dg_name 3 (pg_name hN rfl (by first | exact .inl rfl | exact .inr rfl))) dgs_nil)))
  (dss_one (ds_if (dt_w (dw_and (dt_cmp (op_neD hr.units) link_ne (nomark _) (de_mut 1 (pv 1)) (DF.de (ba := false) (df_lst da_nil))) (dw_and1 (dt_cmp (op_eqD hr.units) link_eq (nomark _) (de_ix (fun _ _ => rfl) (de_ix (fun _ _ => rfl) (de_mut 1 (pv 1)) (de_neg de_int)) de_int) (de_var 2 (pv 2))))))
    (dss_one (ds_putL 1 (pv 1) (de_neg de_int) (de_tup (da_cons (de_var 2 (pv 2)) (da_cons (de_add (de_ix (fun _ _ => rfl) (de_ix (fun _ _ => rfl) (de_mut 1 (pv 1)) (de_neg de_int)) de_int) (de_var 3 (pv 3))) da_nil)))))
    (dss_one (ds_app 1 (pv 1) (de_tup (da_cons (de_var 2 (pv 2)) (da_cons (de_var 3 (pv 3)) da_nil))))))))
  (dss_frz 1 (dss_one (ds_ret (de_var 1 (pv 1)))))))
abbrev N_Row_init : List Str := ["self", "runs"]
theorem ok_Row_init (T : Txt K mg base) : FnM P w K mg base 2 T.f_Row_init c_Row_init := by
  have sc : FnScope N_Row_init ["self", "runs"] (defScope s_Row_init) := ⟨rfl, rfl, rfl, by decide +kernel, rfl, by decide +kernel, by decide +kernel⟩
  have hN := sc.nd
  refine FnM.imp (fnM_of (m := b_Row_init) T.F_Row_init sc T.b_Row_init (by simp) fun cdv A outer s H E hG hr => ?_) c_Row_init_ok
  exact (dss_one (ds_fld 0 T.n_Row T.cl_Row T.no_Row_own_runs (pv 0) (de_callT call_tuple_of link_tuple rfl T.z_tuple bt_tuple (da_cons (DE.up (de_call (ok_merged T) hG (hr.mono (by decide)) (takes_of rfl rfl rfl rfl) rfl T.m_merged T.k_merged (da_cons (de_var 1 (pv 1)) da_nil))) da_nil))))
abbrev N_is_integer : List Str := ["value"]
theorem ok_is_integer (T : Txt K mg base) : FnD P w K mg base 1 T.f_is_integer c_is_integer := by
  have sc : FnScope N_is_integer ["value"] (defScope s_is_integer) := ⟨rfl, rfl, rfl, by decide +kernel, rfl, by decide +kernel, by decide +kernel⟩
  have hN := sc.nd
  refine FnD.imp (fnD_of (m := b_is_integer) T.F_is_integer sc T.b_is_integer fun cdv A outer s H E hG hr => ?_) c_is_integer_ok
  exact (dss_one (ds_ret (de_and (de_callB call_isi link_isi rfl T.z_isinstance bt_isinstance (da_cons (DE.up (de_var 0 (pv 0))) (da_cons (DE.up (de_ty rfl T.z_int bt_int)) da_nil))) (de_and (de_not (de_callB call_isi link_isi rfl T.z_isinstance bt_isinstance (da_cons (DE.up (de_var 0 (pv 0))) (da_cons (DE.up (de_ty rfl T.z_bool bt_bool)) da_nil)))) (de_one (de_chain op_ltD link_lt op_ltD link_lt (de_neg (de_const (v := V.int 100000000000000000000000000000000000000000000000000000000000000000000000000000000000000000000000000000000000000000000000000000000000000000000000000000000000000000000000000000000000000000000000000000000) (pe_glob rfl T.g_LIMIT ⟨_, rfl⟩) fun _ => .int _)) (de_var 0 (pv 0)) (de_const (v := V.int 100000000000000000000000000000000000000000000000000000000000000000000000000000000000000000000000000000000000000000000000000000000000000000000000000000000000000000000000000000000000000000000000000000000) (pe_glob rfl T.g_LIMIT ⟨_, rfl⟩) fun _ => .int _)))))))
abbrev N_is_size : List Str := ["value"]
theorem ok_is_size (T : Txt K mg base) : FnD P w K mg base 2 T.f_is_size c_is_size := by
  have sc : FnScope N_is_size ["value"] (defScope s_is_size) := ⟨rfl, rfl, rfl, by decide +kernel, rfl, by decide +kernel, by decide +kernel⟩
  have hN := sc.nd
  refine FnD.imp (fnD_of (m := b_is_size) T.F_is_size sc T.b_is_size fun cdv A outer s H E hG hr => ?_) c_is_size_ok
  exact (dss_one (ds_ret (de_and (de_call (ok_is_integer T) hG (hr.mono (by decide)) (takes_of rfl rfl rfl rfl) rfl T.m_is_integer T.k_is_integer (da_cons (de_var 0 (pv 0)) da_nil)) (de_one (de_cmp op_geD link_ge (nomark _) (de_var 0 (pv 0)) de_int)))))
abbrev N_is_run : List Str := ["value"]
theorem ok_is_run (T : Txt K mg base) : FnD P w K mg base 3 T.f_is_run c_is_run := by
  have sc : FnScope N_is_run ["value"] (defScope s_is_run) := ⟨rfl, rfl, rfl, by decide +kernel, rfl, by decide +kernel, by decide +kernel⟩
  have hN := sc.nd
  refine FnD.imp (fnD_of (m := b_is_run) T.F_is_run sc T.b_is_run fun cdv A outer s H E hG hr => ?_) c_is_run_ok
  exact (dss_one (ds_ret (de_and (de_callB call_isi link_isi rfl T.z_isinstance bt_isinstance (da_cons (DE.up (de_var 0 (pv 0))) (da_cons (DE.up (de_ty rfl T.z_tuple bt_tuple)) da_nil))) (de_and (de_cmp (op_eqD hr.units) link_eq (nomark _) (de_callB call_len link_len rfl T.z_len bt_len (da_cons (DE.up (de_var 0 (pv 0))) da_nil)) de_int) (de_and (de_call (ok_is_size T) hG (hr.mono (by decide)) (takes_of rfl rfl rfl rfl) rfl T.m_is_size T.k_is_size (da_cons (de_ix (fun _ _ => rfl) (de_var 0 (pv 0)) de_int) da_nil)) (de_one (de_call (ok_is_size T) hG (hr.mono (by decide)) (takes_of rfl rfl rfl rfl) rfl T.m_is_size T.k_is_size (da_cons (de_ix (fun _ _ => rfl) (de_var 0 (pv 0)) de_int) da_nil))))))))
abbrev N_Store_init : List Str := ["self", "runs", "run", "found"]
theorem ok_Store_init (T : Txt K mg base) : FnM P w K mg base 4 T.f_Store_init c_Store_init := by
  have sc : FnScope N_Store_init ((["self"] : List Str) ++ [("runs" : Str)]) (defScope s_Store_init) := ⟨rfl, rfl, rfl, by decide +kernel, rfl, by decide +kernel, by decide +kernel⟩
  have hN := sc.nd
  refine FnM.imp (fnM_star (m := b_Store_init) T.F_Store_init sc T.b_Store_init (by simp) fun cdv A outer s H E hG hr => ?_) c_Store_init_ok
  exact (dss_one (ds_if (dt_w (dw_and (dt_cmp (op_eqD hr.units) link_eq (nomark _) (de_callB call_len link_len rfl T.z_len bt_len (da_cons (DE.up (de_var 1 (pv 1))) da_nil)) de_int) (dw_and1 (dt_val (de_isiC T.n_Row T.g_Row rfl (by decide) T.ki_Row T.kits (by decide) rfl T.z_isinstance (de_ix (fun _ _ => rfl) (de_var 1 (pv 1)) de_int))))))
  (dss_one (ds_fld 0 T.n_Store T.cl_Store T.no_Store_own_runs (pv 0) (de_fld T.n_Row T.cl_Row T.no_Row_own_runs (de_ix (fun _ _ => rfl) (de_var 1 (pv 1)) de_int))))
  (dss_cons (ds_if (dt_not (dt_val (de_callB (cr_all rfl) link_all rfl T.z_all bt_all (da_cons (DE.up (DF.de (ba := false) (df_comp (own := [("run", 2)]) rfl hN (di_seq (ba := true) (DE.up (de_var 1 (pv 1)))) (blkOk_by (N := N_Store_init) (sc := defScope s_Store_init) (by decide +kernel)) (fun _ _ _ _ _ => (dgw_name 2 (pg_name hN rfl (by first | exact .inl rfl | exact .inr rfl)))) (fun _ _ _ _ _ => dts_nil) (fun _ _ _ _ _ => (de_call (ok_is_run T) hG (hr.mono (by decide)) takes0 rfl T.m_is_run T.k_is_run (da_cons (de_var 2 (pv 2)) da_nil)))))) da_nil))))
    (dss_one (ds_raise0 PySem.F.excBase_ValueError T.xi_InvalidStore T.n_InvalidStore T.g_InvalidStore T.kp_InvalidStore T.sb_InvalidStore T.ty_InvalidStore rfl (takes_of rfl rfl rfl rfl) rfl))
    dss_nil)
    (dss_cons (ds_set 3 hN (de_call (ok_merged T) hG (hr.mono (by decide)) (takes_of rfl rfl rfl rfl) rfl T.m_merged T.k_merged (da_cons (de_var 1 (pv 1)) da_nil)))
    (dss_cons (ds_if (dt_cmp op_gtD link_gt (nomark _) (de_callB call_len link_len rfl T.z_len bt_len (da_cons (DE.up (de_var 3 (pv 3))) da_nil)) (de_const (v := V.int 40) (pe_glob rfl T.g_MAX_RUNS ⟨_, rfl⟩) fun _ => .int _))
    (dss_one (ds_raise0 PySem.F.excBase_ValueError T.xi_InvalidStore T.n_InvalidStore T.g_InvalidStore T.kp_InvalidStore T.sb_InvalidStore T.ty_InvalidStore rfl (takes_of rfl rfl rfl rfl) rfl))
    dss_nil)
    (dss_one (ds_fld 0 T.n_Store T.cl_Store T.no_Store_own_runs (pv 0) (de_callT call_tuple_of link_tuple rfl T.z_tuple bt_tuple (da_cons (DE.up (de_var 3 (pv 3))) da_nil)))))))))
abbrev N_store_of : List Str := ["runs"]
theorem ok_store_of (T : Txt K mg base) : FnD P w K mg base 6 T.f_store_of c_store_of := by
  have sc : FnScope N_store_of ["runs"] (defScope s_store_of) := ⟨rfl, rfl, rfl, by decide +kernel, rfl, by decide +kernel, by decide +kernel⟩
  have hN := sc.nd
  refine FnD.imp (fnD_of (m := b_store_of) T.F_store_of sc T.b_store_of fun cdv A outer s H E hG hr => ?_) c_store_of_ok
  exact (dss_one (ds_ret (DF.de (ba := false) (df_make T.n_Store T.mk_Store (ok_Store_init T) hG (hr.mono (by decide)) (takes_of rfl rfl rfl rfl) rfl T.g_Store (da_cons (DF.de (ba := false) (df_make T.n_Row T.mk_Row (ok_Row_init T) hG (hr.mono (by decide)) (takes_of rfl rfl rfl rfl) rfl T.g_Row (da_cons (de_var 0 (pv 0)) da_nil))) da_nil)))))
abbrev N_few_runs : List Str := ["runs", "found"]
theorem ok_few_runs (T : Txt K mg base) : FnD P w K mg base 7 T.f_few_runs c_few_runs := by
  have sc : FnScope N_few_runs ["runs"] (defScope s_few_runs) := ⟨rfl, rfl, rfl, by decide +kernel, rfl, by decide +kernel, by decide +kernel⟩
  have hN := sc.nd
  refine FnD.imp (fnD_of (m := b_few_runs) T.F_few_runs sc T.b_few_runs fun cdv A outer s H E hG hr => ?_) c_few_runs_ok
  exact (dss_cons (ds_set 1 hN (de_call (ok_store_of T) hG (hr.mono (by decide)) (takes_of rfl rfl rfl rfl) rfl T.m_store_of T.k_store_of (da_cons (de_var 0 (pv 0)) da_nil)))
  (dss_cons (ds_if (dt_cmp op_gtD link_gt (nomark _) (de_callB call_len link_len rfl T.z_len bt_len (da_cons (DE.up (de_fld T.n_Store T.cl_Store T.no_Store_own_runs (de_var 1 (pv 1)))) da_nil)) (de_const (v := V.int 40) (pe_glob rfl T.g_MAX_RUNS ⟨_, rfl⟩) fun _ => .int _))
  (dss_one (ds_raise (k := 0) bx_OverflowError T.x_TooMany fo_limit T.n_TooMany T.g_TooMany rfl (hr.mono (by decide)) (takes_of rfl rfl rfl rfl) (de_const (v := V.int 40) (pe_glob rfl T.g_MAX_RUNS ⟨_, rfl⟩) fun _ => .int _) rfl))
  dss_nil)
  (dss_one (ds_ret (de_var 1 (pv 1))))))
abbrev N_Store_add : List Str := ["self", "other"]
theorem ok_Store_add (T : Txt K mg base) : FnD P w K mg base 8 T.f_Store_add c_Store_add := by
  have sc : FnScope N_Store_add ["self", "other"] (defScope s_Store_add) := ⟨rfl, rfl, rfl, by decide +kernel, rfl, by decide +kernel, by decide +kernel⟩
  have hN := sc.nd
  refine FnD.imp (fnD_of (m := b_Store_add) T.F_Store_add sc T.b_Store_add fun cdv A outer s H E hG hr => ?_) c_Store_add_ok
  exact (dss_cons (ds_if (dt_not (dt_val (de_isiC T.n_Store T.g_Store rfl (by decide) T.ki_Store T.kits (by decide) rfl T.z_isinstance (de_var 1 (pv 1)))))
  (dss_one (ds_raise0 PySem.F.excBase_ValueError T.xi_InvalidOperation T.n_InvalidOperation T.g_InvalidOperation T.kp_InvalidOperation T.sb_InvalidOperation T.ty_InvalidOperation rfl (takes_of rfl rfl rfl rfl) rfl))
  dss_nil)
  (dss_one (ds_ret (de_call (ok_few_runs T) hG (hr.mono (by decide)) (takes_of rfl rfl rfl rfl) rfl T.m_few_runs T.k_few_runs (da_cons (DF.de (ba := false) (df_lst (da_star (de_fld T.n_Store T.cl_Store T.no_Store_own_runs (de_var 0 (pv 0))) (da_star (de_fld T.n_Store T.cl_Store T.no_Store_own_runs (de_var 1 (pv 1))) da_nil)))) da_nil)))))
abbrev N_Store_number : List Str := ["self", "room", "many"]
theorem ok_Store_number (T : Txt K mg base) : FnD P w K mg base 1 T.f_Store_number c_Store_number := by
  have sc : FnScope N_Store_number ["self"] (defScope s_Store_number) := ⟨rfl, rfl, rfl, by decide +kernel, rfl, by decide +kernel, by decide +kernel⟩
  have hN := sc.nd
  refine FnD.imp (fnD_of (m := b_Store_number) T.F_Store_number sc T.b_Store_number fun cdv A outer s H E hG hr => ?_) c_Store_number_ok
  exact (dss_one (ds_ret (de_callB (cr_sum rfl) link_sum rfl T.z_sum bt_sum (da_cons (DE.up (DF.de (ba := false) (df_comp (own := [("room", 1), ("many", 2)]) rfl hN (di_seq (ba := true) (DE.up (de_fld T.n_Store T.cl_Store T.no_Store_own_runs (de_var 0 (pv 0))))) (blkOk_by (N := N_Store_number) (sc := defScope s_Store_number) (by decide +kernel)) (fun _ _ _ _ _ => (dgw_tup rfl (dgws_cons (dgw_name 1 (pg_name hN rfl (by first | exact .inl rfl | exact .inr rfl))) (dgws_cons (dgw_name 2 (pg_name hN rfl (by first | exact .inl rfl | exact .inr rfl))) dgws_nil)))) (fun _ _ _ _ _ => dts_nil) (fun _ _ _ _ _ => (de_var 2 (pv 2)))))) da_nil))))
abbrev N_is_count : List Str := ["value"]
theorem ok_is_count (T : Txt K mg base) : FnD P w K mg base 2 T.f_is_count c_is_count := by
  have sc : FnScope N_is_count ["value"] (defScope s_is_count) := ⟨rfl, rfl, rfl, by decide +kernel, rfl, by decide +kernel, by decide +kernel⟩
  have hN := sc.nd
  refine FnD.imp (fnD_of (m := b_is_count) T.F_is_count sc T.b_is_count fun cdv A outer s H E hG hr => ?_) c_is_count_ok
  exact (dss_one (ds_ret (de_and (de_call (ok_is_integer T) hG (hr.mono (by decide)) (takes_of rfl rfl rfl rfl) rfl T.m_is_integer T.k_is_integer (da_cons (de_var 0 (pv 0)) da_nil)) (de_one (de_cmp op_geD link_ge (nomark _) (de_var 0 (pv 0)) de_int)))))
abbrev N_require_size : List Str := ["size"]
theorem ok_require_size (T : Txt K mg base) : FnD P w K mg base 3 T.f_require_size c_require_size := by
  have sc : FnScope N_require_size ["size"] (defScope s_require_size) := ⟨rfl, rfl, rfl, by decide +kernel, rfl, by decide +kernel, by decide +kernel⟩
  have hN := sc.nd
  refine FnD.imp (fnD_of (m := b_require_size) T.F_require_size sc T.b_require_size fun cdv A outer s H E hG hr => ?_) c_require_size_ok
  exact (dss_one (ds_if (dt_not (dt_val (de_call (ok_is_size T) hG (hr.mono (by decide)) (takes_of rfl rfl rfl rfl) rfl T.m_is_size T.k_is_size (da_cons (de_var 0 (pv 0)) da_nil))))
  (dss_one (ds_raise (k := 0) bx_IndexError T.x_InvalidNumber fo_value T.n_InvalidNumber T.g_InvalidNumber rfl (hr.mono (by decide)) (takes_of rfl rfl rfl rfl) (de_var 0 (pv 0)) rfl))
  dss_nil))
abbrev N_runs_between : List Str := ["runs", "first", "last", "found", "begin", "room", "many", "low", "high"]
theorem ok_runs_between (T : Txt K mg base) : FnD P w K mg base 1 T.f_runs_between c_runs_between := by
  have sc : FnScope N_runs_between ["runs", "first", "last"] (defScope s_runs_between) := ⟨rfl, rfl, rfl, by decide +kernel, rfl, by decide +kernel, by decide +kernel⟩
  have hN := sc.nd
  refine FnD.imp (fnD_of (m := b_runs_between) T.F_runs_between sc T.b_runs_between fun cdv A outer s H E hG hr => ?_) c_runs_between_ok
  exact (dss_cons (ds_parm 3 4 rfl hN (df_lst da_nil) de_int)
  (dss_cons (ds_for (passes_of rfl) rfl (di_seq (ba := false) (de_var 0 (pv 0))) (dg_tup rfl (dgs_cons (dg_name 5 (pg_name hN rfl (by first | exact .inl rfl | exact .inr rfl))) (dgs_cons (dg_name 6 (pg_name hN rfl (by first | exact .inl rfl | exact .inr rfl))) dgs_nil)))
  (dss_cons (ds_par 7 8 rfl hN (da_cons (de_callB (call_max2 rfl) link_max2 rfl T.z_max bt_max (da_cons (DE.up (de_var 4 (pv 4))) (da_cons (DE.up (de_var 1 (pv 1))) da_nil))) (da_cons (de_callB (call_min2 rfl) link_min2 rfl T.z_min bt_min (da_cons (DE.up (de_add (de_var 4 (pv 4)) (de_var 6 (pv 6)))) (da_cons (DE.up (de_var 2 (pv 2))) da_nil))) da_nil)))
    (dss_cons (ds_if (dt_cmp op_ltD link_lt (nomark _) (de_var 7 (pv 7)) (de_var 8 (pv 8)))
    (dss_one (ds_app 3 (pv 3) (de_tup (da_cons (de_var 5 (pv 5)) (da_cons (de_sub (de_var 8 (pv 8)) (de_var 7 (pv 7))) da_nil)))))
    dss_nil)
    (dss_one (ds_aug 4 hN ip_add (de_var 6 (pv 6)))))))
  (dss_frz 3 (dss_one (ds_ret (de_var 3 (pv 3)))))))
abbrev N_Store_exchanged : List Str := ["self", "index", "room", "total", "head", "tail"]
theorem ok_Store_exchanged (T : Txt K mg base) : FnD P w K mg base 8 T.f_Store_exchanged c_Store_exchanged := by
  have sc : FnScope N_Store_exchanged ["self", "index", "room"] (defScope s_Store_exchanged) := ⟨rfl, rfl, rfl, by decide +kernel, rfl, by decide +kernel, by decide +kernel⟩
  have hN := sc.nd
  refine FnD.imp (fnD_of (m := b_Store_exchanged) T.F_Store_exchanged sc T.b_Store_exchanged fun cdv A outer s H E hG hr => ?_) c_Store_exchanged_ok
  exact (dss_cons (ds_set 3 hN (de_prop T.n_Store T.cl_Store T.pr_Store_number (ok_Store_number T) hG (hr.mono (by decide)) (de_var 0 (pv 0)) rfl))
  (dss_cons (ds_if (dt_w (dw_or (dt_not (dt_val (de_call (ok_is_count T) hG (hr.mono (by decide)) (takes_of rfl rfl rfl rfl) rfl T.m_is_count T.k_is_count (da_cons (de_var 1 (pv 1)) da_nil)))) (dw_or1 (dt_cmp op_geD link_ge (nomark _) (de_var 1 (pv 1)) (de_var 3 (pv 3))))))
  (dss_one (ds_raise (k := 0) bx_IndexError T.x_InvalidNumber fo_value T.n_InvalidNumber T.g_InvalidNumber rfl (hr.mono (by decide)) (takes_of rfl rfl rfl rfl) (de_var 1 (pv 1)) rfl))
  dss_nil)
  (dss_cons (ds_expr (de_call (ok_require_size T) hG (hr.mono (by decide)) (takes_of rfl rfl rfl rfl) rfl T.m_require_size T.k_require_size (da_cons (de_var 2 (pv 2)) da_nil)))
  (dss_cons (ds_par 4 5 rfl hN (da_cons (de_call (ok_runs_between T) hG (hr.mono (by decide)) (takes_of rfl rfl rfl rfl) rfl T.m_runs_between T.k_runs_between (da_cons (de_fld T.n_Store T.cl_Store T.no_Store_own_runs (de_var 0 (pv 0))) (da_cons de_int (da_cons (de_var 1 (pv 1)) da_nil)))) (da_cons (de_call (ok_runs_between T) hG (hr.mono (by decide)) (takes_of rfl rfl rfl rfl) rfl T.m_runs_between T.k_runs_between (da_cons (de_fld T.n_Store T.cl_Store T.no_Store_own_runs (de_var 0 (pv 0))) (da_cons (de_add (de_var 1 (pv 1)) de_int) (da_cons (de_var 3 (pv 3)) da_nil)))) da_nil)))
  (dss_one (ds_ret (de_call (ok_few_runs T) hG (hr.mono (by decide)) (takes_of rfl rfl rfl rfl) rfl T.m_few_runs T.k_few_runs (da_cons (DF.de (ba := false) (df_lst (da_star (de_var 4 (pv 4)) (da_cons (de_tup (da_cons (de_var 2 (pv 2)) (da_cons de_int da_nil))) (da_star (de_var 5 (pv 5)) da_nil))))) da_nil))))))))
abbrev N_Store_len : List Str := ["self"]
theorem ok_Store_len (T : Txt K mg base) : FnD P w K mg base 1 T.f_Store_len c_Store_len := by
  have sc : FnScope N_Store_len ["self"] (defScope s_Store_len) := ⟨rfl, rfl, rfl, by decide +kernel, rfl, by decide +kernel, by decide +kernel⟩
  have hN := sc.nd
  refine FnD.imp (fnD_of (m := b_Store_len) T.F_Store_len sc T.b_Store_len fun cdv A outer s H E hG hr => ?_) c_Store_len_ok
  exact (dss_one (ds_ret (de_callB call_len link_len rfl T.z_len bt_len (da_cons (DE.up (de_fld T.n_Store T.cl_Store T.no_Store_own_runs (de_var 0 (pv 0)))) da_nil))))
abbrev N_law_dice : List Str := ["script", "spot", "cell", "left"]
theorem ok_law_dice (T : Txt K mg base) : FnD P w K mg base 1 T.f_law_dice c_law_dice := by
  have sc : FnScope N_law_dice ["script", "spot"] (defScope s_law_dice) := ⟨rfl, rfl, rfl, by decide +kernel, rfl, by decide +kernel, by decide +kernel⟩
  have hN := sc.nd
  refine FnD.imp (fnD_of (m := b_law_dice) T.F_law_dice sc T.b_law_dice fun cdv A outer s H E hG hr => ?_) c_law_dice_ok
  exact (dss_cons (ds_set 2 hN (de_if (dt_cmp op_ltD link_lt (nomark _) (de_var 1 (pv 1)) (de_callB call_len link_len rfl T.z_len bt_len (da_cons (DE.up (de_var 0 (pv 0))) da_nil))) (de_callT call_int1 link_int rfl T.z_int bt_int (da_cons (DE.up (de_ix (fun _ _ => rfl) (de_var 0 (pv 0)) (de_var 1 (pv 1)))) da_nil)) (de_add (de_mul de_int (de_var 1 (pv 1))) de_int)))
  (dss_cons (ds_set 3 hN (de_mod (de_callB (call_max2 rfl) link_max2 rfl T.z_max bt_max (da_cons (DE.up de_int) (da_cons (DE.up (de_sub (de_callB call_abs link_abs rfl T.z_abs bt_abs (da_cons (DE.up (de_var 2 (pv 2))) da_nil)) (de_pow de_int de_int))) da_nil))) (de_mul (de_pow de_int de_int) (de_pow de_int de_int))))
  (dss_one (ds_ret (de_dice (df_lst (da_cons (de_var 3 (pv 3)) (da_cons (de_add (de_add (de_add (de_mul (de_mod (de_callB call_abs link_abs rfl T.z_abs bt_abs (da_cons (DE.up (de_var 2 (pv 2))) da_nil)) de_int) de_int) (de_mul de_int (de_var 1 (pv 1)))) (de_mul de_int (de_callT call_int1 link_int rfl T.z_int bt_int (da_cons (DE.up (de_cmp op_ltD link_lt (nomark _) (de_var 2 (pv 2)) de_int)) da_nil)))) de_int) (da_cons de_int da_nil)))))))))
abbrev N_law_met : List Str := ["call", "e"]
theorem ok_law_met (T : Txt K mg base) : FnT P w K mg base 8 10 T.f_law_met m_law_met := by
  have sc : FnScope N_law_met ["call"] (defScope s_law_met) := ⟨rfl, rfl, rfl, by decide +kernel, rfl, by decide +kernel, by decide +kernel⟩
  have hN := sc.nd
  refine (fnT_of (m := b_law_met) T.F_law_met sc T.b_law_met fun cdv A outer s H E f Hc tl hG hr hT => ?_)
  exact (dss_cons (ds_try rfl rfl (takes_of rfl rfl rfl rfl) (fun W1 pn1 xe1 tk1 ps1 => (dss_one (ds_expr (hT (i := 0) (a := "call") rfl (.inl rfl) rfl rfl hr tk1)))) (dhs_cons T.isa T.n_InvalidStore T.g_InvalidStore (by decide) rfl (fun a oe pn => (dss_one (ds_ret de_str))) (dhs_cons T.isa T.n_InvalidOperation T.g_InvalidOperation (by decide) rfl (fun a oe pn => (dss_one (ds_ret de_str))) (dhs_as 1 T.isa hN rfl rfl T.n_InvalidNumber T.g_InvalidNumber (by decide) (by decide) rfl (fun a dd oe pn hz hfl => (dss_one (ds_ret (de_add de_str (de_repr hG hr.units rfl T.z_repr bt_repr (de_xf 1 T.xf_InvalidNumber T.x_InvalidNumber.no hz hfl (pv 1))))))) (dhs_as 1 T.isa hN rfl rfl T.n_ParseError T.g_ParseError (by decide) (by decide) rfl (fun a dd oe pn hz hfl => (dss_one (ds_ret (de_add de_str (de_repr hG hr.units rfl T.z_repr bt_repr (de_xf 1 T.xf_ParseError T.x_ParseError.no hz hfl (pv 1))))))) (dhs_as 1 T.isa hN rfl rfl T.n_TooMany T.g_TooMany (by decide) (by decide) rfl (fun a dd oe pn hz hfl => (dss_one (ds_ret (de_add de_str (de_repr hG hr.units rfl T.z_repr bt_repr (de_xf 1 T.xf_TooMany T.x_TooMany.no hz hfl (pv 1))))))) (dhs_nil rfl)))))) (by simp))
  (dss_one (ds_ret de_str)))
abbrev N_Store_capped : List Str := ["self", "room", "other", "many"]
theorem ok_Store_capped (T : Txt K mg base) : FnD P w K mg base 7 T.f_Store_capped c_Store_capped := by
  have sc : FnScope N_Store_capped ["self", "room"] (defScope s_Store_capped) := ⟨rfl, rfl, rfl, by decide +kernel, rfl, by decide +kernel, by decide +kernel⟩
  have hN := sc.nd
  refine FnD.imp (fnD_of (m := b_Store_capped) T.F_Store_capped sc T.b_Store_capped fun cdv A outer s H E hG hr => ?_) c_Store_capped_ok
  exact (dss_cons (ds_expr (de_call (ok_require_size T) hG (hr.mono (by decide)) (takes_of rfl rfl rfl rfl) rfl T.m_require_size T.k_require_size (da_cons (de_var 1 (pv 1)) da_nil)))
  (dss_one (ds_ret (de_call (ok_store_of T) hG (hr.mono (by decide)) (takes_of rfl rfl rfl rfl) rfl T.m_store_of T.k_store_of (da_cons (DF.de (ba := false) (df_comp (own := [("other", 2), ("many", 3)]) rfl hN (di_seq (ba := true) (DE.up (de_fld T.n_Store T.cl_Store T.no_Store_own_runs (de_var 0 (pv 0))))) (blkOk_by (N := N_Store_capped) (sc := defScope s_Store_capped) (by decide +kernel)) (fun _ _ _ _ _ => (dgw_tup rfl (dgws_cons (dgw_name 2 (pg_name hN rfl (by first | exact .inl rfl | exact .inr rfl))) (dgws_cons (dgw_name 3 (pg_name hN rfl (by first | exact .inl rfl | exact .inr rfl))) dgws_nil)))) (fun _ _ _ _ _ => dts_nil) (fun _ _ _ _ _ => (de_tup (da_cons (de_callB (call_min2 rfl) link_min2 rfl T.z_min bt_min (da_cons (DE.up (de_var 1 (pv 1))) (da_cons (DE.up (de_var 2 (pv 2))) da_nil))) (da_cons (de_var 3 (pv 3)) da_nil)))))) da_nil)))))
abbrev N_Store_cut : List Str := ["self", "size", "room", "many"]
theorem ok_Store_cut (T : Txt K mg base) : FnD P w K mg base 7 T.f_Store_cut c_Store_cut := by
  have sc : FnScope N_Store_cut ["self", "size"] (defScope s_Store_cut) := ⟨rfl, rfl, rfl, by decide +kernel, rfl, by decide +kernel, by decide +kernel⟩
  have hN := sc.nd
  refine FnD.imp (fnD_of (m := b_Store_cut) T.F_Store_cut sc T.b_Store_cut fun cdv A outer s H E hG hr => ?_) c_Store_cut_ok
  exact (dss_cons (ds_expr (de_call (ok_require_size T) hG (hr.mono (by decide)) (takes_of rfl rfl rfl rfl) rfl T.m_require_size T.k_require_size (da_cons (de_var 1 (pv 1)) da_nil)))
  (dss_one (ds_ret (de_call (ok_store_of T) hG (hr.mono (by decide)) (takes_of rfl rfl rfl rfl) rfl T.m_store_of T.k_store_of (da_cons (DF.de (ba := false) (df_comp (own := [("room", 2), ("many", 3)]) rfl hN (di_seq (ba := true) (DE.up (de_fld T.n_Store T.cl_Store T.no_Store_own_runs (de_var 0 (pv 0))))) (blkOk_by (N := N_Store_cut) (sc := defScope s_Store_cut) (by decide +kernel)) (fun _ _ _ _ _ => (dgw_tup rfl (dgws_cons (dgw_name 2 (pg_name hN rfl (by first | exact .inl rfl | exact .inr rfl))) (dgws_cons (dgw_name 3 (pg_name hN rfl (by first | exact .inl rfl | exact .inr rfl))) dgws_nil)))) (fun _ _ _ _ _ => (dts_one (dt_cmp op_geD link_ge (nomark _) (de_var 2 (pv 2)) (de_var 1 (pv 1))))) (fun _ _ _ _ _ => (de_tup (da_cons (de_sub (de_var 2 (pv 2)) (de_mod (de_var 2 (pv 2)) (de_var 1 (pv 1)))) (da_cons (de_var 3 (pv 3)) da_nil)))))) da_nil)))))
abbrev N_Store_part : List Str := ["self", "first", "last"]
theorem ok_Store_part (T : Txt K mg base) : FnD P w K mg base 7 T.f_Store_part c_Store_part := by
  have sc : FnScope N_Store_part ["self", "first", "last"] (defScope s_Store_part) := ⟨rfl, rfl, rfl, by decide +kernel, rfl, by decide +kernel, by decide +kernel⟩
  have hN := sc.nd
  refine FnD.imp (fnD_of (m := b_Store_part) T.F_Store_part sc T.b_Store_part fun cdv A outer s H E hG hr => ?_) c_Store_part_ok
  exact (dss_cons (ds_if (dt_w (dw_or (dt_not (dt_val (de_call (ok_is_count T) hG (hr.mono (by decide)) (takes_of rfl rfl rfl rfl) rfl T.m_is_count T.k_is_count (da_cons (de_var 1 (pv 1)) da_nil)))) (dw_or1 (dt_cmp op_gtD link_gt (nomark _) (de_var 1 (pv 1)) (de_prop T.n_Store T.cl_Store T.pr_Store_number (ok_Store_number T) hG (hr.mono (by decide)) (de_var 0 (pv 0)) rfl)))))
  (dss_one (ds_raise (k := 0) bx_IndexError T.x_InvalidNumber fo_value T.n_InvalidNumber T.g_InvalidNumber rfl (hr.mono (by decide)) (takes_of rfl rfl rfl rfl) (de_var 1 (pv 1)) rfl))
  dss_nil)
  (dss_cons (ds_if (dt_w (dw_or (dt_not (dt_val (de_call (ok_is_count T) hG (hr.mono (by decide)) (takes_of rfl rfl rfl rfl) rfl T.m_is_count T.k_is_count (da_cons (de_var 2 (pv 2)) da_nil)))) (dw_or1 (dt_not (dt_chain op_leD link_le op_leD link_le (de_var 1 (pv 1)) (de_var 2 (pv 2)) (de_prop T.n_Store T.cl_Store T.pr_Store_number (ok_Store_number T) hG (hr.mono (by decide)) (de_var 0 (pv 0)) rfl))))))
  (dss_one (ds_raise (k := 0) bx_IndexError T.x_InvalidNumber fo_value T.n_InvalidNumber T.g_InvalidNumber rfl (hr.mono (by decide)) (takes_of rfl rfl rfl rfl) (de_var 2 (pv 2)) rfl))
  dss_nil)
  (dss_one (ds_ret (de_call (ok_store_of T) hG (hr.mono (by decide)) (takes_of rfl rfl rfl rfl) rfl T.m_store_of T.k_store_of (da_cons (de_call (ok_runs_between T) hG (hr.mono (by decide)) (takes_of rfl rfl rfl rfl) rfl T.m_runs_between T.k_runs_between (da_cons (de_fld T.n_Store T.cl_Store T.no_Store_own_runs (de_var 0 (pv 0))) (da_cons (de_var 1 (pv 1)) (da_cons (de_var 2 (pv 2)) da_nil)))) da_nil))))))
abbrev N_Store_room_at : List Str := ["self", "index", "left", "room", "many"]
theorem ok_Store_room_at (T : Txt K mg base) : FnD P w K mg base 3 T.f_Store_room_at c_Store_room_at := by
  have sc : FnScope N_Store_room_at ["self", "index"] (defScope s_Store_room_at) := ⟨rfl, rfl, rfl, by decide +kernel, rfl, by decide +kernel, by decide +kernel⟩
  have hN := sc.nd
  refine FnD.imp (fnD_of (m := b_Store_room_at) T.F_Store_room_at sc T.b_Store_room_at fun cdv A outer s H E hG hr => ?_) c_Store_room_at_ok
  exact (dss_cons (ds_if (dt_w (dw_or (dt_not (dt_val (de_call (ok_is_count T) hG (hr.mono (by decide)) (takes_of rfl rfl rfl rfl) rfl T.m_is_count T.k_is_count (da_cons (de_var 1 (pv 1)) da_nil)))) (dw_or1 (dt_cmp op_geD link_ge (nomark _) (de_var 1 (pv 1)) (de_prop T.n_Store T.cl_Store T.pr_Store_number (ok_Store_number T) hG (hr.mono (by decide)) (de_var 0 (pv 0)) rfl)))))
  (dss_one (ds_raise (k := 0) bx_IndexError T.x_InvalidNumber fo_value T.n_InvalidNumber T.g_InvalidNumber rfl (hr.mono (by decide)) (takes_of rfl rfl rfl rfl) (de_var 1 (pv 1)) rfl))
  dss_nil)
  (dss_cons (ds_set 2 hN (de_var 1 (pv 1)))
  (dss_cons (ds_for (passes_of rfl) rfl (di_seq (ba := false) (de_fld T.n_Store T.cl_Store T.no_Store_own_runs (de_var 0 (pv 0)))) (dg_tup rfl (dgs_cons (dg_name 3 (pg_name hN rfl (by first | exact .inl rfl | exact .inr rfl))) (dgs_cons (dg_name 4 (pg_name hN rfl (by first | exact .inl rfl | exact .inr rfl))) dgs_nil)))
  (dss_cons (ds_if (dt_cmp op_ltD link_lt (nomark _) (de_var 2 (pv 2)) (de_var 4 (pv 4)))
    (dss_one ds_break)
    dss_nil)
    (dss_one (ds_aug 2 hN ip_sub (de_var 4 (pv 4))))))
  (dss_one (ds_ret (de_var 3 (pv 3)))))))
abbrev N_space_in : List Str := ["runs", "size", "room", "many"]
theorem ok_space_in (T : Txt K mg base) : FnD P w K mg base 1 T.f_space_in c_space_in := by
  have sc : FnScope N_space_in ["runs", "size"] (defScope s_space_in) := ⟨rfl, rfl, rfl, by decide +kernel, rfl, by decide +kernel, by decide +kernel⟩
  have hN := sc.nd
  refine FnD.imp (fnD_of (m := b_space_in) T.F_space_in sc T.b_space_in fun cdv A outer s H E hG hr => ?_) c_space_in_ok
  exact (dss_one (ds_ret (de_callB (cr_sum rfl) link_sum rfl T.z_sum bt_sum (da_cons (DE.up (DF.de (ba := false) (df_comp (own := [("room", 2), ("many", 3)]) rfl hN (di_seq (ba := true) (DE.up (de_var 0 (pv 0)))) (blkOk_by (N := N_space_in) (sc := defScope s_space_in) (by decide +kernel)) (fun _ _ _ _ _ => (dgw_tup rfl (dgws_cons (dgw_name 2 (pg_name hN rfl (by first | exact .inl rfl | exact .inr rfl))) (dgws_cons (dgw_name 3 (pg_name hN rfl (by first | exact .inl rfl | exact .inr rfl))) dgws_nil)))) (fun _ _ _ _ _ => dts_nil) (fun _ _ _ _ _ => (de_mul (de_var 3 (pv 3)) (de_div (de_var 2 (pv 2)) (de_var 1 (pv 1)))))))) da_nil))))
abbrev N_Store_units : List Str := ["self", "size"]
theorem ok_Store_units (T : Txt K mg base) : FnD P w K mg base 4 T.f_Store_units c_Store_units := by
  have sc : FnScope N_Store_units ["self", "size"] (defScope s_Store_units) := ⟨rfl, rfl, rfl, by decide +kernel, rfl, by decide +kernel, by decide +kernel⟩
  have hN := sc.nd
  refine FnD.imp (fnD_of (m := b_Store_units) T.F_Store_units sc T.b_Store_units fun cdv A outer s H E hG hr => ?_) c_Store_units_ok
  exact (dss_cons (ds_expr (de_call (ok_require_size T) hG (hr.mono (by decide)) (takes_of rfl rfl rfl rfl) rfl T.m_require_size T.k_require_size (da_cons (de_var 1 (pv 1)) da_nil)))
  (dss_one (ds_ret (de_call (ok_space_in T) hG (hr.mono (by decide)) (takes_of rfl rfl rfl rfl) rfl T.m_space_in T.k_space_in (da_cons (de_fld T.n_Store T.cl_Store T.no_Store_own_runs (de_var 0 (pv 0))) (da_cons (de_var 1 (pv 1)) da_nil))))))
abbrev N_Store_runs : List Str := ["self"]
theorem ok_Store_runs (T : Txt K mg base) : FnD P w K mg base 1 T.f_Store_runs c_Store_runs := by
  have sc : FnScope N_Store_runs ["self"] (defScope s_Store_runs) := ⟨rfl, rfl, rfl, by decide +kernel, rfl, by decide +kernel, by decide +kernel⟩
  have hN := sc.nd
  refine FnD.imp (fnD_of (m := b_Store_runs) T.F_Store_runs sc T.b_Store_runs fun cdv A outer s H E hG hr => ?_) c_Store_runs_ok
  exact (dss_one (ds_ret (de_fld T.n_Store T.cl_Store T.no_Store_own_runs (de_var 0 (pv 0)))))
abbrev N_law_first : List Str := ["words", "found", "word"]
theorem ok_law_first (T : Txt K mg base) : FnD P w K mg base 1 T.f_law_first c_law_first := by
  have sc : FnScope N_law_first ["words"] (defScope s_law_first) := ⟨rfl, rfl, rfl, by decide +kernel, rfl, by decide +kernel, by decide +kernel⟩
  have hN := sc.nd
  refine FnD.imp (fnD_of (m := b_law_first) T.F_law_first sc T.b_law_first fun cdv A outer s H E hG hr => ?_) c_law_first_ok
  exact (dss_cons (ds_setLc 1 (y := "found") (own := [("word", 2)]) rfl hN (di_seq (ba := true) (DE.up (de_var 0 (pv 0)))) (blkOk_by (N := N_law_first) (sc := defScope s_law_first) (by decide +kernel)) (fun _ _ _ _ _ => (dgw_name 2 (pg_name hN rfl (by first | exact .inl rfl | exact .inr rfl)))) (fun _ _ _ _ _ => (dts_one (dt_cmp (op_neD hr.units) link_ne (nomark _) (de_var 2 (pv 2)) de_str))) (fun _ _ _ _ _ => (de_var 2 (pv 2))))
  (dss_one (ds_ret (de_if (dt_cmp (op_neD hr.units) link_ne (nomark _) (de_var 1 (pv 1)) (DF.de (ba := false) (df_lst da_nil))) (de_ix (fun _ _ => rfl) (de_var 1 (pv 1)) de_int) de_str))))
abbrev N_law_is_int : List Str := ["value", "least"]
theorem ok_law_is_int (T : Txt K mg base) : FnD P w K mg base 1 T.f_law_is_int c_law_is_int := by
  have sc : FnScope N_law_is_int ["value", "least"] (defScope s_law_is_int) := ⟨rfl, rfl, rfl, by decide +kernel, rfl, by decide +kernel, by decide +kernel⟩
  have hN := sc.nd
  refine FnD.imp (fnD_of (m := b_law_is_int) T.F_law_is_int sc T.b_law_is_int fun cdv A outer s H E hG hr => ?_) c_law_is_int_ok
  exact (dss_one (ds_ret (de_and (de_callB call_isi link_isi rfl T.z_isinstance bt_isinstance (da_cons (DE.up (de_var 0 (pv 0))) (da_cons (DE.up (de_ty rfl T.z_int bt_int)) da_nil))) (de_and (de_not (de_callB call_isi link_isi rfl T.z_isinstance bt_isinstance (da_cons (DE.up (de_var 0 (pv 0))) (da_cons (DE.up (de_ty rfl T.z_bool bt_bool)) da_nil)))) (de_one (de_chain op_leD link_le op_ltD link_lt (de_var 1 (pv 1)) (de_var 0 (pv 0)) (de_pow (de_pow de_int de_int) de_int)))))))

/-! the roll -/
theorem ok_law_roll (T : Txt K mg base) : FnD P w K mg base 1 T.f_law_roll mRoll := by
  have sc : FnScope ["dice", "total", "found", "one", "two"] ["dice", "total"] (defScope s_law_roll) := ⟨rfl, rfl, rfl, by decide +kernel, rfl, by decide +kernel, by decide +kernel⟩
  have hN := sc.nd
  refine fnP_of T.F_law_roll sc (sb := spD K mRoll) (fun s us vs H Q E hK r h => ?_) fun cdv A outer s H vs Q E hG hr h => ?_
  · obtain ⟨fo, ds, PP, EK, ht, tb, rs, ⟨n, rfl, hm⟩, q⟩ := id h
    have e : us.length = 2 := by rw [← r.length, rs.length]; rfl
    have b := T.b_law_roll s us hK (by rw [List.append_nil]; exact e)
    rw [List.append_nil] at b
    exact ⟨vs, us, r, by rw [rs.length]; rfl, b, h⟩
  obtain ⟨fo, ds, PP, EK, ht, tb, rs, hm, hq, he⟩ := h
  obtain ⟨n, rfl, h0, h1, hroll⟩ := hm
  obtain ⟨a, rfl, hd⟩ : ∃ a, vs = [.ref a, .int n] ∧ H a = some (diceO a) := by
    cases rs with
    | cons r1 rs => cases rs with
      | cons r2 rs =>
        cases rs
        cases r2
        cases r1 with
        | dice h => exact ⟨_, rfl, sub_le _ _ h⟩
  refine ⟨_, pss_dice (pss_cons (ps_if (pt_cmpR op_gt (pe_ix ix_list (pv 0) pe_int (fun _ _ => rfl)) pe_int (nomark _))
      (pss_cons (ps_set (i := 2) hN rfl (.inl rfl) (pe_op op_mod (pe_callTy call_int1 rfl T.z_int bt_int (pa_cons (pe_ix ix_list (pv 0) pe_int (fun _ _ => rfl)) pa_nil)) (pv 1)))
      (pss_cons (ps_asg (pe_op op_fdiv (pe_ix ix_list (pv 0) pe_int (fun _ _ => rfl)) (pv 1)) (pg_sub (pv 0) pe_int set_list))
      (pss_one (ps_ret (pv 2))))) pss_nil)
    (pss_cons (ps_asg (pe_op op_add (pe_ix ix_list (pv 0) pe_int (fun _ _ => rfl)) pe_int) (pg_sub (pv 0) pe_int set_list))
    (pss_cons (ps_set (i := 3) hN rfl (.inl rfl) (pe_op op_mod (pe_callTy call_int1 rfl T.z_int bt_int (pa_cons (pe_op op_add (pe_ix ix_list (pv 0) pe_int (fun _ _ => rfl)) (pe_op op_mul pe_int (pe_ix ix_list (pv 0) pe_int (fun _ _ => rfl)))) pa_nil)) pe_int))
    (pss_cons (ps_set (i := 4) hN rfl (.inl rfl) (pe_op op_add (pe_op op_mul (pe_op op_mod (pe_callTy call_int1 rfl T.z_int bt_int (pa_cons (pe_op op_add (pe_op op_mul (pv 3) (pv 3)) (pe_op op_mul pe_int (pe_ix ix_list (pv 0) pe_int (fun _ _ => rfl)))) pa_nil)) pe_int) pe_int) (pv 3)))
    (pss_one (ps_ret (pe_op op_mod (pe_callTy call_int1 rfl T.z_int bt_int (pa_cons (pe_op op_fdiv (pv 4) pe_int) pa_nil)) (pv 1)))))))), ?_⟩
  refine ⟨a, hd, fun i j k => ?_⟩
  have back : ∀ (xs : List V) (b : Addr), upd (upd H a (.lst xs)) a (diceO a) b = H b := fun xs b => by
    by_cases e : b = a
    · rw [e, upd_same, hd]
    · rw [upd_ne e, upd_ne e]
  have fin : ∀ (r : Int) (H' : Hp) (xs : List V), H' = upd H a (.lst xs) → 0 ≤ r → r < n → Q (.int r) (upd H' a (diceO a)) := fun r H' xs e q0 q1 => by
    subst e
    exact hq (.int r) (.int r) _ (hroll r q0 q1) (Same.of fun b o z => by rw [back]; exact z) (.int r)
  have lx : ∀ {xs : List V} {H0 : Hp}, SqL K (upd H0 a (.lst xs)) a xs := fun {xs H0} => .of upd_same
  refine ⟨_, rfl, a, [.int i, .int j, .int k], 0, .int i, rfl, rfl, lx, rfl, i, 0, rfl, rfl, _, rfl, ?_⟩
  refine ite2 (fun hi => ?_) fun hi => ?_
  · refine ⟨_, rfl, a, _, 0, .int i, rfl, rfl, lx, rfl, .inl ⟨i, rfl, _, rfl, i, n, rfl, rfl, h0, ?_⟩⟩
    refine ⟨_, rfl, a, _, 0, .int i, rfl, rfl, lx, rfl, _, rfl, i, n, rfl, rfl, ⟨h0, h1⟩, _, rfl, a, _, 0, 0, rfl, rfl, upd_same, rfl, _, rfl, ?_⟩
    refine ⟨_, _, _, upd_same, fin _ _ _ upd_upd (Int.emod_nonneg _ (by omega)) (Int.emod_lt_of_pos _ h0)⟩
  · refine ⟨_, rfl, a, _, 2, .int k, rfl, rfl, lx, rfl, k, 1, rfl, rfl, _, rfl, a, _, 2, 2, rfl, rfl, upd_same, rfl, ?_⟩
    refine ⟨_, rfl, a, [.int i, .int j, .int (k + 1)], 1, .int j, rfl, rfl, lx, rfl, _, rfl, a, [.int i, .int j, .int (k + 1)], 2, .int (k + 1), rfl, rfl, lx, rfl, _, _, rfl, rfl, .inl ⟨by decide, by decide⟩, _, _, rfl, rfl, .inl ⟨_, rfl, _, _, rfl, rfl, (by show (0 : Int) < _; decide), ?_⟩⟩
    have b1 := Int.emod_nonneg (j + 67867967 * (k + 1)) (show (2305843009213693723 : Int) ≠ 0 by decide)
    have b2 := Int.emod_lt_of_pos (j + 67867967 * (k + 1)) (show (0 : Int) < 2305843009213693723 by decide)
    refine ⟨_, rfl, _, rfl, _, _, rfl, rfl, .inl ⟨by omega, by omega⟩, _, rfl, a, [.int i, .int j, .int (k + 1)], 2, .int (k + 1), rfl, rfl, lx, rfl, _, _, rfl, rfl, .inl ⟨by decide, by decide⟩, _, _, rfl, rfl, .inl ⟨_, rfl, _, _, rfl, rfl, (by show (0 : Int) < _; decide), ?_⟩⟩
    refine ⟨_, _, rfl, rfl, .inr ⟨by decide, by decide⟩, _, rfl, _, _, rfl, rfl, ?_⟩
    refine ⟨_, rfl, _, _, rfl, rfl, ⟨by decide, by decide⟩, .inl ⟨_, rfl, _, rfl, _, _, rfl, rfl, h0, ?_⟩⟩
    exact ⟨_, _, _, upd_same, fin _ _ _ upd_upd (Int.emod_nonneg _ (by omega)) (Int.emod_lt_of_pos _ h0)⟩

abbrev N_law_pick : List Str := ["dice", "items"]
theorem ok_law_pick (T : Txt K mg base) : FnD P w K mg base 2 T.f_law_pick c_law_pick := by
  have sc : FnScope N_law_pick ["dice", "items"] (defScope s_law_pick) := ⟨rfl, rfl, rfl, by decide +kernel, rfl, by decide +kernel, by decide +kernel⟩
  have hN := sc.nd
  refine FnD.imp (fnD_of (m := b_law_pick) T.F_law_pick sc T.b_law_pick fun cdv A outer s H E hG hr => ?_) c_law_pick_ok
  exact (dss_one (ds_ret (de_ix (fun _ _ => rfl) (de_var 1 (pv 1)) (de_call (ok_law_roll T) hG (hr.mono (by decide)) (takes_of rfl rfl rfl rfl) rfl T.m_law_roll T.k_law_roll (da_cons (de_var 0 (pv 0)) (da_cons (de_callB call_len link_len rfl T.z_len bt_len (da_cons (DE.up (de_var 1 (pv 1))) da_nil)) da_nil))))))
abbrev N_law_word : List Str := ["value", "least", "most", "is_fine"]
theorem ok_law_word (T : Txt K mg base) : FnD P w K mg base 2 T.f_law_word c_law_word := by
  have sc : FnScope N_law_word ["value", "least", "most"] (defScope s_law_word) := ⟨rfl, rfl, rfl, by decide +kernel, rfl, by decide +kernel, by decide +kernel⟩
  have hN := sc.nd
  refine FnD.imp (fnD_of (m := b_law_word) T.F_law_word sc T.b_law_word fun cdv A outer s H E hG hr => ?_) c_law_word_ok
  exact (dss_cons (ds_set 3 hN (de_and (de_call (ok_law_is_int T) hG (hr.mono (by decide)) (takes_of rfl rfl rfl rfl) rfl T.m_law_is_int T.k_law_is_int (da_cons (de_var 0 (pv 0)) (da_cons (de_var 1 (pv 1)) da_nil))) (de_one (de_or (de_cmp op_isN link_is (nomark _) (de_var 2 (pv 2)) de_none) (de_one (de_cmp op_leD link_le (nomark _) (de_var 0 (pv 0)) (de_var 2 (pv 2))))))))
  (dss_one (ds_ret (de_if (dt_val (de_var 3 (pv 3))) de_str (de_add de_str (de_repr hG hr.units rfl T.z_repr bt_repr (de_var 0 (pv 0))))))))
abbrev N_law_right : List Str := ["dice", "store", "odd", "size", "index", "last", "told", "low", "due", "other"]
theorem ok_law_right (T : Txt K mg base) : FnD P w K mg base 11 T.f_law_right c_law_right := by
  have sc : FnScope N_law_right ["dice", "store"] (defScope s_law_right) := ⟨rfl, rfl, rfl, by decide +kernel, rfl, by decide +kernel, by decide +kernel⟩
  have hN := sc.nd
  refine FnD.imp (fnD_ofC (m := b_law_right) T.F_law_right T.cd_law_right sc T.b_law_right fun A outer s H E hG hr => ?_) c_law_right_ok
  exact (dss_cons (ds_set 2 hN (DF.de (ba := false) (df_lst (da_cons de_none (da_cons (de_neg de_int) (da_cons de_str (da_cons (de_tup (da_cons de_int da_nil)) (da_cons (DF.de (ba := false) (df_lst (da_cons de_int da_nil))) (da_cons (DF.de (ba := false) df_dnew) (da_cons de_bool (da_cons de_str (da_cons (de_pow (de_pow de_int de_int) de_int) da_nil))))))))))))
  (dss_cons (ds_asg (de_tup (da_cons (de_call (ok_law_pick T) hG (hr.mono (by decide)) (takes_of rfl rfl rfl rfl) rfl T.m_law_pick T.k_law_pick (da_cons (de_var 0 (pv 0)) (da_cons (de_add (DF.de (ba := false) (df_lst (da_cons de_int (da_cons de_int (da_cons de_int (da_cons de_int da_nil)))))) (de_var 2 (pv 2))) da_nil))) (da_cons (de_call (ok_law_pick T) hG (hr.mono (by decide)) (takes_of rfl rfl rfl rfl) rfl T.m_law_pick T.k_law_pick (da_cons (de_var 0 (pv 0)) (da_cons (de_add (DF.de (ba := false) (df_lst (da_cons de_int (da_cons de_int (da_cons de_int (da_cons de_int da_nil)))))) (de_var 2 (pv 2))) da_nil))) da_nil))) (dg_tup rfl (dgs_cons (dg_name 3 (pg_name hN rfl (by first | exact .inl rfl | exact .inr rfl))) (dgs_cons (dg_name 4 (pg_name hN rfl (by first | exact .inl rfl | exact .inr rfl))) dgs_nil))))
  (dss_cons (ds_set 5 hN (de_call (ok_law_pick T) hG (hr.mono (by decide)) (takes_of rfl rfl rfl rfl) rfl T.m_law_pick T.k_law_pick (da_cons (de_var 0 (pv 0)) (da_cons (de_add (DF.de (ba := false) (df_lst (da_cons de_int (da_cons de_int (da_cons de_int (da_cons de_int (da_cons de_int da_nil))))))) (de_var 2 (pv 2))) da_nil))))
  (dss_cons (ds_setm 6 hN (df_lst (da_cons (de_thunk (ok_law_met T) hG (hr.mono (by decide)) (takes_of rfl rfl rfl rfl) rfl T.m_law_met T.k_law_met T.tb_law_right rfl T.tm_law_right T.tu_law_right (LamX.lamS_by (sc := defScope s_law_right) (by decide +kernel)) (fun _ _ _ _ _ _ _ hG hr => (de_meth T.n_Store T.cl_Store (ok_Store_units T) T.me_Store_units hG (hr.mono (by decide)) (takes_of rfl rfl rfl rfl) (de_var 1 (pv 1)) rfl (da_cons (de_var 3 (pv 3)) da_nil)))) da_nil)))
  (dss_cons (ds_app 6 (pv 6) (de_thunk (ok_law_met T) hG (hr.mono (by decide)) (takes_of rfl rfl rfl rfl) rfl T.m_law_met T.k_law_met T.tb_law_right rfl T.tm_law_right T.tu_law_right (LamX.lamS_by (sc := defScope s_law_right) (by decide +kernel)) (fun _ _ _ _ _ _ _ hG hr => (de_meth T.n_Store T.cl_Store (ok_Store_cut T) T.me_Store_cut hG (hr.mono (by decide)) (takes_of rfl rfl rfl rfl) (de_var 1 (pv 1)) rfl (da_cons (de_var 3 (pv 3)) da_nil)))))
  (dss_cons (ds_app 6 (pv 6) (de_thunk (ok_law_met T) hG (hr.mono (by decide)) (takes_of rfl rfl rfl rfl) rfl T.m_law_met T.k_law_met T.tb_law_right rfl T.tm_law_right T.tu_law_right (LamX.lamS_by (sc := defScope s_law_right) (by decide +kernel)) (fun _ _ _ _ _ _ _ hG hr => (de_meth T.n_Store T.cl_Store (ok_Store_capped T) T.me_Store_capped hG (hr.mono (by decide)) (takes_of rfl rfl rfl rfl) (de_var 1 (pv 1)) rfl (da_cons (de_var 3 (pv 3)) da_nil)))))
  (dss_frz 6 (dss_cons (ds_if (dt_cmp (op_neD hr.units) link_ne (nomark _) (de_var 6 (pv 6)) (DF.de (ba := false) (df_rep (DF.de (ba := false) (df_lst (da_cons (de_call (ok_law_word T) hG (hr.mono (by decide)) (takes_of rfl rfl rfl rfl) rfl T.m_law_word T.k_law_word (da_cons (de_var 3 (pv 3)) (da_cons de_int (da_cons de_none da_nil)))) da_nil))) de_int)))
  (dss_one (ds_ret de_bool))
  dss_nil)
  (dss_cons (ds_if (dt_cmp (op_neD hr.units) link_ne (nomark _) (de_thunk (ok_law_met T) hG (hr.mono (by decide)) (takes_of rfl rfl rfl rfl) rfl T.m_law_met T.k_law_met T.tb_law_right rfl T.tm_law_right T.tu_law_right (LamX.lamS_by (sc := defScope s_law_right) (by decide +kernel)) (fun _ _ _ _ _ _ _ hG hr => (de_meth T.n_Store T.cl_Store (ok_Store_room_at T) T.me_Store_room_at hG (hr.mono (by decide)) (takes_of rfl rfl rfl rfl) (de_var 1 (pv 1)) rfl (da_cons (de_var 4 (pv 4)) da_nil)))) (de_call (ok_law_word T) hG (hr.mono (by decide)) (takes_of rfl rfl rfl rfl) rfl T.m_law_word T.k_law_word (da_cons (de_var 4 (pv 4)) (da_cons de_int (da_cons de_int da_nil)))))
  (dss_one (ds_ret de_bool))
  dss_nil)
  (dss_cons (ds_set 7 hN (de_if (dt_w (dw_and (dt_val (de_call (ok_law_is_int T) hG (hr.mono (by decide)) (takes_of rfl rfl rfl rfl) rfl T.m_law_is_int T.k_law_is_int (da_cons (de_var 4 (pv 4)) (da_cons de_int da_nil)))) (dw_and1 (dt_cmp op_leD link_le (nomark _) (de_var 4 (pv 4)) de_int)))) (de_var 4 (pv 4)) de_int))
  (dss_cons (ds_set 8 hN (de_call (ok_law_first T) hG (hr.mono (by decide)) (takes_of rfl rfl rfl rfl) rfl T.m_law_first T.k_law_first (da_cons (DF.de (ba := false) (df_lst (da_cons (de_call (ok_law_word T) hG (hr.mono (by decide)) (takes_of rfl rfl rfl rfl) rfl T.m_law_word T.k_law_word (da_cons (de_var 4 (pv 4)) (da_cons de_int (da_cons de_int da_nil)))) (da_cons (de_call (ok_law_word T) hG (hr.mono (by decide)) (takes_of rfl rfl rfl rfl) rfl T.m_law_word T.k_law_word (da_cons (de_var 5 (pv 5)) (da_cons (de_var 7 (pv 7)) (da_cons de_int da_nil)))) da_nil)))) da_nil)))
  (dss_cons (ds_if (dt_cmp (op_neD hr.units) link_ne (nomark _) (de_thunk (ok_law_met T) hG (hr.mono (by decide)) (takes_of rfl rfl rfl rfl) rfl T.m_law_met T.k_law_met T.tb_law_right rfl T.tm_law_right T.tu_law_right (LamX.lamS_by (sc := defScope s_law_right) (by decide +kernel)) (fun _ _ _ _ _ _ _ hG hr => (de_meth T.n_Store T.cl_Store (ok_Store_part T) T.me_Store_part hG (hr.mono (by decide)) (takes_of rfl rfl rfl rfl) (de_var 1 (pv 1)) rfl (da_cons (de_var 4 (pv 4)) (da_cons (de_var 5 (pv 5)) da_nil))))) (de_var 8 (pv 8)))
  (dss_one (ds_ret de_bool))
  dss_nil)
  (dss_cons (ds_set 8 hN (de_call (ok_law_first T) hG (hr.mono (by decide)) (takes_of rfl rfl rfl rfl) rfl T.m_law_first T.k_law_first (da_cons (DF.de (ba := false) (df_lst (da_cons (de_call (ok_law_word T) hG (hr.mono (by decide)) (takes_of rfl rfl rfl rfl) rfl T.m_law_word T.k_law_word (da_cons (de_var 4 (pv 4)) (da_cons de_int (da_cons de_int da_nil)))) (da_cons (de_call (ok_law_word T) hG (hr.mono (by decide)) (takes_of rfl rfl rfl rfl) rfl T.m_law_word T.k_law_word (da_cons (de_var 3 (pv 3)) (da_cons de_int (da_cons de_none da_nil)))) da_nil)))) da_nil)))
  (dss_cons (ds_if (dt_cmp (op_neD hr.units) link_ne (nomark _) (de_thunk (ok_law_met T) hG (hr.mono (by decide)) (takes_of rfl rfl rfl rfl) rfl T.m_law_met T.k_law_met T.tb_law_right rfl T.tm_law_right T.tu_law_right (LamX.lamS_by (sc := defScope s_law_right) (by decide +kernel)) (fun _ _ _ _ _ _ _ hG hr => (de_meth T.n_Store T.cl_Store (ok_Store_exchanged T) T.me_Store_exchanged hG (hr.mono (by decide)) (takes_of rfl rfl rfl rfl) (de_var 1 (pv 1)) rfl (da_cons (de_var 4 (pv 4)) (da_cons (de_var 3 (pv 3)) da_nil))))) (de_var 8 (pv 8)))
  (dss_one (ds_ret de_bool))
  dss_nil)
  (dss_cons (ds_set 9 hN (de_call (ok_law_pick T) hG (hr.mono (by decide)) (takes_of rfl rfl rfl rfl) rfl T.m_law_pick T.k_law_pick (da_cons (de_var 0 (pv 0)) (da_cons (DF.de (ba := false) (df_lst (da_cons de_none (da_cons de_int (da_cons (de_tup (da_cons de_int (da_cons de_int da_nil))) (da_cons de_str (da_cons (de_tup da_nil) (da_cons (DF.de (ba := false) (df_lst da_nil)) (da_cons (de_prop T.n_Store T.cl_Store T.pr_Store_runs (ok_Store_runs T) hG (hr.mono (by decide)) (de_var 1 (pv 1)) rfl) (da_cons (DF.de (ba := false) df_dnew) (da_cons de_bool da_nil))))))))))) da_nil))))
  (dss_one (ds_ret (de_cmp (op_eqD hr.units) link_eq (nomark _) (de_thunk (ok_law_met T) hG (hr.mono (by decide)) (takes_of rfl rfl rfl rfl) rfl T.m_law_met T.k_law_met T.tb_law_right rfl T.tm_law_right T.tu_law_right (LamX.lamS_by (sc := defScope s_law_right) (by decide +kernel)) (fun _ _ _ _ _ _ _ hG hr => (de_binO T.n_Store (T.kits.ins "Store" _ (by decide) T.n_Store) T.bn_Store_add (ok_Store_add T) hG (hr.mono (by decide)) (takes_of rfl rfl rfl rfl) (de_var 1 (pv 1)) (de_var 9 (pv 9))))) de_str))))))))))))))))))
abbrev N_law_row_of : List Str := ["many", "found", "at"]
theorem ok_law_row_of (T : Txt K mg base) : FnD P w K mg base 9 T.f_law_row_of c_law_row_of := by
  have sc : FnScope N_law_row_of ["many"] (defScope s_law_row_of) := ⟨rfl, rfl, rfl, by decide +kernel, rfl, by decide +kernel, by decide +kernel⟩
  have hN := sc.nd
  refine FnD.imp (fnD_of (m := b_law_row_of) T.F_law_row_of sc T.b_law_row_of fun cdv A outer s H E hG hr => ?_) c_law_row_of_ok
  exact (dss_cons (ds_set 1 hN (DF.de (ba := false) (df_make0 T.n_Store T.mk_Store (ok_Store_init T) hG (hr.mono (by decide)) (takes_of rfl rfl rfl rfl) rfl T.g_Store)))
  (dss_cons (ds_for (passes_of rfl) rfl (di_range1 (ba := false) rfl T.z_range (da_cons (DE.up (de_var 0 (pv 0))) da_nil)) (dg_name 2 (pg_name hN rfl (by first | exact .inl rfl | exact .inr rfl)))
  (dss_one (ds_set 1 hN (de_binO T.n_Store (T.kits.ins "Store" _ (by decide) T.n_Store) T.bn_Store_add (ok_Store_add T) hG (hr.mono (by decide)) (takes_of rfl rfl rfl rfl) (de_var 1 (pv 1)) (DF.de (ba := false) (df_make T.n_Store T.mk_Store (ok_Store_init T) hG (hr.mono (by decide)) (takes_of rfl rfl rfl rfl) rfl T.g_Store (da_cons (de_tup (da_cons (de_add de_int (de_mod (de_var 2 (pv 2)) de_int)) (da_cons de_int da_nil))) da_nil)))))))
  (dss_one (ds_ret (de_var 1 (pv 1))))))
abbrev N_law_runs_right : List Str := ["dice", "odd", "run", "told"]
theorem ok_law_runs_right (T : Txt K mg base) : FnD P w K mg base 11 T.f_law_runs_right c_law_runs_right := by
  have sc : FnScope N_law_runs_right ["dice"] (defScope s_law_runs_right) := ⟨rfl, rfl, rfl, by decide +kernel, rfl, by decide +kernel, by decide +kernel⟩
  have hN := sc.nd
  refine FnD.imp (fnD_ofC (m := b_law_runs_right) T.F_law_runs_right T.cd_law_runs_right sc T.b_law_runs_right fun A outer s H E hG hr => ?_) c_law_runs_right_ok
  exact (dss_cons (ds_set 1 hN (DF.de (ba := false) (df_lst (da_cons de_none (da_cons de_int (da_cons de_int (da_cons (de_tup (da_cons de_int da_nil)) (da_cons (de_tup (da_cons de_int (da_cons de_int da_nil))) (da_cons (de_tup (da_cons de_int (da_cons de_int da_nil))) (da_cons (de_tup (da_cons de_int (da_cons (de_neg de_int) da_nil))) (da_cons (de_tup (da_cons de_int (da_cons de_int (da_cons de_int da_nil)))) (da_cons (DF.de (ba := false) (df_lst (da_cons de_int (da_cons de_int da_nil)))) (da_cons de_str (da_cons (de_tup (da_cons de_str (da_cons de_int da_nil))) (da_cons (de_tup (da_cons de_int (da_cons de_none da_nil))) (da_cons (de_tup (da_cons de_bool (da_cons de_int da_nil))) (da_cons (de_tup (da_cons de_int (da_cons de_bool da_nil))) da_nil)))))))))))))))))
  (dss_cons (ds_set 2 hN (de_call (ok_law_pick T) hG (hr.mono (by decide)) (takes_of rfl rfl rfl rfl) rfl T.m_law_pick T.k_law_pick (da_cons (de_var 0 (pv 0)) (da_cons (de_add (de_var 1 (pv 1)) (DF.de (ba := false) (df_lst (da_cons (DF.de (ba := false) df_dnew) (da_cons (de_tup da_nil) (da_cons (de_tup (da_cons (de_tup (da_cons de_int (da_cons de_int da_nil))) da_nil)) (da_cons (de_tup (da_cons de_int (da_cons (de_pow (de_pow de_int de_int) de_int) da_nil))) (da_cons (de_tup (da_cons (de_pow (de_pow de_int de_int) de_int) (da_cons de_int da_nil))) da_nil)))))))) da_nil))))
  (dss_cons (ds_setm 3 hN (df_lst (da_cons (de_thunk (ok_law_met T) hG (hr.mono (by decide)) (takes_of rfl rfl rfl rfl) rfl T.m_law_met T.k_law_met T.tb_law_runs_right rfl T.tm_law_runs_right T.tu_law_runs_right (LamX.lamS_by (sc := defScope s_law_runs_right) (by decide +kernel)) (fun _ _ _ _ _ _ _ hG hr => (DF.de (ba := false) (df_make T.n_Store T.mk_Store (ok_Store_init T) hG (hr.mono (by decide)) (takes_of rfl rfl rfl rfl) rfl T.g_Store (da_cons (de_var 2 (pv 2)) da_nil))))) da_nil)))
  (dss_cons (ds_app 3 (pv 3) (de_thunk (ok_law_met T) hG (hr.mono (by decide)) (takes_of rfl rfl rfl rfl) rfl T.m_law_met T.k_law_met T.tb_law_runs_right rfl T.tm_law_runs_right T.tu_law_runs_right (LamX.lamS_by (sc := defScope s_law_runs_right) (by decide +kernel)) (fun _ _ _ _ _ _ _ hG hr => (DF.de (ba := false) (df_make T.n_Store T.mk_Store (ok_Store_init T) hG (hr.mono (by decide)) (takes_of rfl rfl rfl rfl) rfl T.g_Store (da_cons (de_tup (da_cons de_int (da_cons de_int da_nil))) (da_cons (de_var 2 (pv 2)) da_nil)))))))
  (dss_cons (ds_app 3 (pv 3) (de_thunk (ok_law_met T) hG (hr.mono (by decide)) (takes_of rfl rfl rfl rfl) rfl T.m_law_met T.k_law_met T.tb_law_runs_right rfl T.tm_law_runs_right T.tu_law_runs_right (LamX.lamS_by (sc := defScope s_law_runs_right) (by decide +kernel)) (fun _ _ _ _ _ _ _ hG hr => (DF.de (ba := false) (df_make T.n_Store T.mk_Store (ok_Store_init T) hG (hr.mono (by decide)) (takes_of rfl rfl rfl rfl) rfl T.g_Store (da_cons (de_var 2 (pv 2)) (da_cons (de_tup (da_cons de_int (da_cons de_int da_nil))) da_nil)))))))
  (dss_cons (ds_app 3 (pv 3) (de_thunk (ok_law_met T) hG (hr.mono (by decide)) (takes_of rfl rfl rfl rfl) rfl T.m_law_met T.k_law_met T.tb_law_runs_right rfl T.tm_law_runs_right T.tu_law_runs_right (LamX.lamS_by (sc := defScope s_law_runs_right) (by decide +kernel)) (fun _ _ _ _ _ _ _ hG hr => (DF.de (ba := false) (df_make T.n_Store T.mk_Store (ok_Store_init T) hG (hr.mono (by decide)) (takes_of rfl rfl rfl rfl) rfl T.g_Store (da_cons (de_tup (da_cons de_int (da_cons (de_sub (de_pow (de_pow de_int de_int) de_int) de_int) da_nil))) da_nil))))))
  (dss_frz 3 (dss_one (ds_ret (de_cmp (op_eqD hr.units) link_eq (nomark _) (de_var 3 (pv 3)) (de_add (DF.de (ba := false) (df_rep (DF.de (ba := false) (df_lst (da_cons de_str da_nil))) de_int)) (DF.de (ba := false) (df_lst (da_cons de_str da_nil))))))))))))))
abbrev N_law : List Str := ["script", "store", "spot", "dice", "turn", "full", "told", "wide"]
theorem ok_law (T : Txt K mg base) : FnD P w K mg base 12 T.f_law m_law := by
  have sc : FnScope N_law ["script"] (defScope s_law) := ⟨rfl, rfl, rfl, by decide +kernel, rfl, by decide +kernel, by decide +kernel⟩
  have hN := sc.nd
  refine (fnD_ofC (m := b_law) T.F_law T.cd_law sc T.b_law fun A outer s H E hG hr => ?_)
  exact (dss_cons (ds_set 1 hN (DF.de (ba := false) (df_make T.n_Store T.mk_Store (ok_Store_init T) hG (hr.mono (by decide)) (takes_of rfl rfl rfl rfl) rfl T.g_Store (da_cons (de_tup (da_cons de_int (da_cons de_int da_nil))) (da_cons (de_tup (da_cons de_int (da_cons de_int da_nil))) da_nil)))))
  (dss_cons (ds_for (passes_of rfl) rfl (di_range1 (ba := false) rfl T.z_range (da_cons (DE.up (de_callB (call_max2 rfl) link_max2 rfl T.z_max bt_max (da_cons (DE.up de_int) (da_cons (DE.up (de_callB (call_min2 rfl) link_min2 rfl T.z_min bt_min (da_cons (DE.up de_int) (da_cons (DE.up (de_callB call_len link_len rfl T.z_len bt_len (da_cons (DE.up (de_var 0 (pv 0))) da_nil))) da_nil)))) da_nil)))) da_nil)) (dg_name 2 (pg_name hN rfl (by first | exact .inl rfl | exact .inr rfl)))
  (dss_cons (ds_set 3 hN (de_call (ok_law_dice T) hG (hr.mono (by decide)) (takes_of rfl rfl rfl rfl) rfl T.m_law_dice T.k_law_dice (da_cons (de_var 0 (pv 0)) (da_cons (de_var 2 (pv 2)) da_nil))))
    (dss_one (ds_for (passes_of rfl) rfl (di_range1 (ba := false) rfl T.z_range (da_cons (DE.up de_int) da_nil)) (dg_name 4 (pg_name hN rfl (by first | exact .inl rfl | exact .inr rfl)))
    (dss_one (ds_if (dt_w (dw_or (dt_not (dt_val (de_call (ok_law_right T) hG (hr.mono (by decide)) (takes_of rfl rfl rfl rfl) rfl T.m_law_right T.k_law_right (da_cons (de_var 3 (pv 3)) (da_cons (de_var 1 (pv 1)) da_nil))))) (dw_or1 (dt_not (dt_val (de_call (ok_law_runs_right T) hG (hr.mono (by decide)) (takes_of rfl rfl rfl rfl) rfl T.m_law_runs_right T.k_law_runs_right (da_cons (de_var 3 (pv 3)) da_nil)))))))
      (dss_one (ds_ret de_bool))
      dss_nil))))))
  (dss_cons (ds_set 5 hN (de_call (ok_law_row_of T) hG (hr.mono (by decide)) (takes_of rfl rfl rfl rfl) rfl T.m_law_row_of T.k_law_row_of (da_cons de_int da_nil)))
  (dss_cons (ds_setm 6 hN (df_lst (da_cons (de_lenO T.n_Store T.len_Store (ok_Store_len T) hG (hr.mono (by decide)) rfl T.z_len (de_var 5 (pv 5))) (da_cons (de_thunk (ok_law_met T) hG (hr.mono (by decide)) (takes_of rfl rfl rfl rfl) rfl T.m_law_met T.k_law_met T.tb_law rfl T.tm_law T.tu_law (LamX.lamS_by (sc := defScope s_law) (by decide +kernel)) (fun _ _ _ _ _ _ _ hG hr => (de_binO T.n_Store (T.kits.ins "Store" _ (by decide) T.n_Store) T.bn_Store_add (ok_Store_add T) hG (hr.mono (by decide)) (takes_of rfl rfl rfl rfl) (de_var 5 (pv 5)) (DF.de (ba := false) (df_make T.n_Store T.mk_Store (ok_Store_init T) hG (hr.mono (by decide)) (takes_of rfl rfl rfl rfl) rfl T.g_Store (da_cons (de_tup (da_cons de_int (da_cons de_int da_nil))) da_nil)))))) da_nil))))
  (dss_cons (ds_app 6 (pv 6) (de_thunk (ok_law_met T) hG (hr.mono (by decide)) (takes_of rfl rfl rfl rfl) rfl T.m_law_met T.k_law_met T.tb_law rfl T.tm_law T.tu_law (LamX.lamS_by (sc := defScope s_law) (by decide +kernel)) (fun _ _ _ _ _ _ _ hG hr => (de_binO T.n_Store (T.kits.ins "Store" _ (by decide) T.n_Store) T.bn_Store_add (ok_Store_add T) hG (hr.mono (by decide)) (takes_of rfl rfl rfl rfl) (de_var 5 (pv 5)) (DF.de (ba := false) (df_make T.n_Store T.mk_Store (ok_Store_init T) hG (hr.mono (by decide)) (takes_of rfl rfl rfl rfl) rfl T.g_Store (da_cons (de_tup (da_cons de_int (da_cons de_int da_nil))) da_nil)))))))
  (dss_cons (ds_app 6 (pv 6) (de_thunk (ok_law_met T) hG (hr.mono (by decide)) (takes_of rfl rfl rfl rfl) rfl T.m_law_met T.k_law_met T.tb_law rfl T.tm_law T.tu_law (LamX.lamS_by (sc := defScope s_law) (by decide +kernel)) (fun _ _ _ _ _ _ _ hG hr => (de_meth T.n_Store T.cl_Store (ok_Store_exchanged T) T.me_Store_exchanged hG (hr.mono (by decide)) (takes_of rfl rfl rfl rfl) (de_var 5 (pv 5)) rfl (da_cons de_int (da_cons de_int da_nil))))))
  (dss_cons (ds_app 6 (pv 6) (de_thunk (ok_law_met T) hG (hr.mono (by decide)) (takes_of rfl rfl rfl rfl) rfl T.m_law_met T.k_law_met T.tb_law rfl T.tm_law T.tu_law (LamX.lamS_by (sc := defScope s_law) (by decide +kernel)) (fun _ _ _ _ _ _ _ hG hr => (de_meth T.n_Store T.cl_Store (ok_Store_exchanged T) T.me_Store_exchanged hG (hr.mono (by decide)) (takes_of rfl rfl rfl rfl) (DF.de (ba := false) (df_make T.n_Store T.mk_Store (ok_Store_init T) hG (hr.mono (by decide)) (takes_of rfl rfl rfl rfl) rfl T.g_Store (da_cons (de_tup (da_cons de_int (da_cons de_int da_nil))) da_nil))) rfl (da_cons de_int (da_cons de_int da_nil))))))
  (dss_cons (ds_set 7 hN (de_binO T.n_Store (T.kits.ins "Store" _ (by decide) T.n_Store) T.bn_Store_add (ok_Store_add T) hG (hr.mono (by decide)) (takes_of rfl rfl rfl rfl) (de_call (ok_law_row_of T) hG (hr.mono (by decide)) (takes_of rfl rfl rfl rfl) rfl T.m_law_row_of T.k_law_row_of (da_cons de_int da_nil)) (DF.de (ba := false) (df_make T.n_Store T.mk_Store (ok_Store_init T) hG (hr.mono (by decide)) (takes_of rfl rfl rfl rfl) rfl T.g_Store (da_cons (de_tup (da_cons de_int (da_cons de_int da_nil))) da_nil)))))
  (dss_cons (ds_app 6 (pv 6) (de_thunk (ok_law_met T) hG (hr.mono (by decide)) (takes_of rfl rfl rfl rfl) rfl T.m_law_met T.k_law_met T.tb_law rfl T.tm_law T.tu_law (LamX.lamS_by (sc := defScope s_law) (by decide +kernel)) (fun _ _ _ _ _ _ _ hG hr => (de_meth T.n_Store T.cl_Store (ok_Store_exchanged T) T.me_Store_exchanged hG (hr.mono (by decide)) (takes_of rfl rfl rfl rfl) (de_var 7 (pv 7)) rfl (da_cons de_int (da_cons de_int da_nil))))))
  (dss_cons (ds_app 6 (pv 6) (de_thunk (ok_law_met T) hG (hr.mono (by decide)) (takes_of rfl rfl rfl rfl) rfl T.m_law_met T.k_law_met T.tb_law rfl T.tm_law T.tu_law (LamX.lamS_by (sc := defScope s_law) (by decide +kernel)) (fun _ _ _ _ _ _ _ hG hr => (de_meth T.n_Store T.cl_Store (ok_Store_exchanged T) T.me_Store_exchanged hG (hr.mono (by decide)) (takes_of rfl rfl rfl rfl) (de_var 7 (pv 7)) rfl (da_cons de_int (da_cons de_int da_nil))))))
  (dss_frz 6 (dss_one (ds_ret (de_cmp (op_eqD hr.units) link_eq (nomark _) (de_var 6 (pv 6)) (DF.de (ba := false) (df_lst (da_cons de_int (da_cons de_str (da_cons de_str (da_cons de_str (da_cons de_str (da_cons de_str (da_cons de_str da_nil)))))))))))))))))))))))
end
end DL.Law

set_option Elab.async false
set_option linter.all false
set_option maxRecDepth 100000
set_option maxHeartbeats 4000000
namespace DL.Law
open DL
open PySem PySem.Spec PyProof.Rows L2
theorem all_mk {q : Program} {l : PySem.W.OpenLaw} {w : World} {K : PySem.W.Frag} {h : Heap} {mg : Str → Option Value} {fa CRow CStore CInvalidNumber fiInvalidNumber NInvalidNumber CInvalidOperation CInvalidStore CParseError fiParseError NParseError CTooMany fiTooMany NTooMany f0 f1 f2 f3 f4 f5 f6 f7 f8 f9 p9 f10 f11 f12 f13 f14 f15 f16 f17 f18 f19 f20 f21 f22 f23 p23 f24 f25 f26 f27 f28 f29 cc29 tP29 f30 f31 cc31 tP31 f32 cc32 tP32 : Addr} (X : K.In h) (G : h.Ns mainGlobals mg) (hfa : mg "law" = some (.ref fa))
    {odInvalidNumber anInvalidNumber ddInvalidNumber odParseError anParseError ddParseError odTooMany anTooMany ddTooMany od0 an0 od1 an1 od2 an2 od3 an3 od4 an4 od5 an5 od6 an6 od7 an7 od8 an8 od9 an9 od10 an10 od11 an11 od12 an12 od13 an13 od14 an14 od15 an15 od16 an16 od17 an17 od18 an18 od19 an19 od20 an20 od21 an21 od22 an22 od23 an23 od24 an24 od25 an25 od26 an26 od27 an27 od28 an28 od29 an29 td29 od30 an30 od31 an31 td31 od32 an32 td32 : Option Addr} {slInvalidNumber slParseError slTooMany sl0 sl1 sl2 sl3 sl4 sl5 sl6 sl7 sl8 sl9 sl10 sl11 sl12 sl13 sl14 sl15 sl16 sl17 sl18 sl19 sl20 sl21 sl22 sl23 sl24 sl25 sl26 sl27 sl28 sl29 tl29 sl30 sl31 tl31 sl32 tl32 : Array (Option Value)} {ocInvalidNumber dcInvalidNumber pmInvalidNumber cdInvalidNumber ctInvalidNumber ocParseError dcParseError pmParseError cdParseError ctParseError ocTooMany dcTooMany pmTooMany cdTooMany ctTooMany oc0 kV0 dc0 pm0 cd0 ct0 oc1 kV1 dc1 pm1 cd1 ct1 oc2 kV2 dc2 pm2 cd2 ct2 oc3 kV3 dc3 pm3 cd3 ct3 oc4 kV4 dc4 pm4 cd4 ct4 oc5 kV5 dc5 pm5 cd5 ct5 oc6 kV6 dc6 pm6 cd6 ct6 oc7 kV7 dc7 pm7 cd7 ct7 oc8 kV8 dc8 pm8 cd8 ct8 oc9 kV9 dc9 pm9 cd9 ct9 oc10 kV10 dc10 pm10 cd10 ct10 oc11 kV11 dc11 pm11 cd11 ct11 oc12 kV12 dc12 pm12 cd12 ct12 oc13 kV13 dc13 pm13 cd13 ct13 oc14 kV14 dc14 pm14 cd14 ct14 oc15 kV15 dc15 pm15 cd15 ct15 oc16 kV16 dc16 pm16 cd16 ct16 oc17 kV17 dc17 pm17 cd17 ct17 oc18 kV18 dc18 pm18 cd18 ct18 oc19 kV19 dc19 pm19 cd19 ct19 oc20 kV20 dc20 pm20 cd20 ct20 oc21 kV21 dc21 pm21 cd21 ct21 oc22 kV22 dc22 pm22 cd22 ct22 oc23 kV23 dc23 pm23 cd23 ct23 oc24 kV24 dc24 pm24 cd24 ct24 oc25 kV25 dc25 pm25 cd25 ct25 oc26 kV26 dc26 pm26 cd26 ct26 oc27 kV27 dc27 pm27 cd27 ct27 oc28 kV28 dc28 pm28 cd28 ct28 oc29 kV29 dc29 pm29 ct29 te29 oc30 kV30 dc30 pm30 cd30 ct30 oc31 kV31 dc31 pm31 ct31 te31 oc32 kV32 dc32 pm32 ct32 te32 : Value} {t_LIMIT t_MAX_RUNS : Tok} {nmInvalidNumber qqInvalidNumber : Str} {bsInvalidNumber bmInvalidNumber sbInvalidNumber : List Value} {snInvalidNumber : List Str} {abInvalidNumber : Bool} {coInvalidNumber : Option Bool} {e0InvalidNumber e1InvalidNumber e2InvalidNumber e3InvalidNumber e5InvalidNumber : Option Value} {nmParseError qqParseError : Str} {bsParseError bmParseError sbParseError : List Value} {snParseError : List Str} {abParseError : Bool} {coParseError : Option Bool} {e0ParseError e1ParseError e2ParseError e3ParseError e5ParseError : Option Value} {nmTooMany qqTooMany : Str} {bsTooMany bmTooMany sbTooMany : List Value} {snTooMany : List Str} {abTooMany : Bool} {coTooMany : Option Bool} {e0TooMany e1TooMany e2TooMany e3TooMany e5TooMany : Option Value} {rs9 : List Value} {rs23 : List Value} {tv29 : Array Value} {tv31 : Array Value} {tv32 : Array Value}
    (n_Row : PySem.W.nsIn K mainGlobals "Row" = some (some (.ref CRow)))
    (ct_Row : insTyB K CRow = true)
    (ki_Row : kitAll K CRow = true)
    (n_Store : PySem.W.nsIn K mainGlobals "Store" = some (some (.ref CStore)))
    (ct_Store : insTyB K CStore = true)
    (ki_Store : kitAll K CStore = true)
    (kk2 : (([("Row", CRow), ("Store", CStore)] : List (Str × Addr)).all fun p => ([("Row", CRow), ("Store", CStore)] : List (Str × Addr)).all fun q => decide (PySem.W.kitOne K (.ref p.2) (.ref q.2) = some (decide (p.1 = q.1)))) = true)
    (kk3 : (([("Row", CRow), ("Store", CStore)] : List (Str × Addr)).all fun p => insTyB K p.2) = true)
    (no_Row_own_runs : PySem.W.findIn K (.ref CRow) "own_runs" = some none)
    (no_Store_own_runs : PySem.W.findIn K (.ref CStore) "own_runs" = some none)
    (br_Store_add : PySem.W.findIn K (.ref CStore) "__radd__" = some none)
    (bs_Store_add : PySem.W.selfFirst K CStore = true)
    (ba_Store_add : binB K CStore (Operator.info .Add).2 = true)
    (n_InvalidNumber : PySem.W.nsIn K mainGlobals "InvalidNumber" = some (some (.ref CInvalidNumber)))
    (xc_InvalidNumber : K.lookup CInvalidNumber = some (excClassObj nmInvalidNumber qqInvalidNumber CInvalidNumber NInvalidNumber bsInvalidNumber bmInvalidNumber true snInvalidNumber sbInvalidNumber abInvalidNumber coInvalidNumber ddInvalidNumber e0InvalidNumber e1InvalidNumber e2InvalidNumber e3InvalidNumber e5InvalidNumber "IndexError.__new__"))
    (xb_InvalidNumber : refsT [.type "IndexError", .type "LookupError", .type "Exception", .type "BaseException", .type "object"] bmInvalidNumber = true)
    (xsa_InvalidNumber : PySem.W.findIn K (.ref CInvalidNumber) "__setattr__" = some (some (.builtin "object.__setattr__")))
    (xga_InvalidNumber : PySem.W.findIn K (.ref CInvalidNumber) "__getattribute__" = some (some (.builtin "BaseException.__getattribute__")))
    (xgg_InvalidNumber : PySem.W.findIn K (.ref CInvalidNumber) "__getattr__" = some none)
    (xno_InvalidNumber : PySem.W.findIn K (.ref CInvalidNumber) "value" = some none)
    (xi_InvalidNumber : PySem.W.findIn K (.ref CInvalidNumber) "__init__" = some (some (.ref fiInvalidNumber)))
    (xt_InvalidNumber : PySem.W.typeIn K (.ref fiInvalidNumber) = some (.type "function"))
    (xk_InvalidNumber : PySem.W.keepIn K (.ref CInvalidNumber) = true)
    (xe_InvalidNumber : PySem.W.subIn K (.ref CInvalidNumber) (.type "BaseException") = some true)
    (xy_InvalidNumber : PySem.W.typeIn K (.ref CInvalidNumber) = some (.type "type"))
    (xh_InvalidNumber : PySem.W.hasDictIn K CInvalidNumber = true)
    (xl_InvalidNumber : K.lookup fiInvalidNumber = some ⟨ocInvalidNumber, odInvalidNumber, .func (PySem.W.fnOf "__init__" "InvalidNumber.__init__" (xA "value" ⟨25, 17, 25, 21⟩ ⟨25, 23, 25, 28⟩) (xB "value" ⟨26, 8, 26, 12⟩ ⟨26, 8, 26, 18⟩ ⟨26, 21, 26, 26⟩ ⟨26, 8, 26, 26⟩) (xS "value") .none .none dcInvalidNumber pmInvalidNumber anInvalidNumber cdInvalidNumber ctInvalidNumber), slInvalidNumber⟩)
    (xcd_InvalidNumber : PySem.W.codeIn K cdInvalidNumber "InvalidNumber.__init__" = true)
    (n_InvalidOperation : PySem.W.nsIn K mainGlobals "InvalidOperation" = some (some (.ref CInvalidOperation)))
    (xi_InvalidOperation : PySem.W.excIn K CInvalidOperation [.type "ValueError", .type "Exception", .type "BaseException", .type "object"] "ValueError.__new__" = true)
    (kp_InvalidOperation : PySem.W.keepIn K (.ref CInvalidOperation) = true)
    (sb_InvalidOperation : PySem.W.subIn K (.ref CInvalidOperation) (.type "BaseException") = some true)
    (ty_InvalidOperation : PySem.W.typeIn K (.ref CInvalidOperation) = some (.type "type"))
    (n_InvalidStore : PySem.W.nsIn K mainGlobals "InvalidStore" = some (some (.ref CInvalidStore)))
    (xi_InvalidStore : PySem.W.excIn K CInvalidStore [.type "ValueError", .type "Exception", .type "BaseException", .type "object"] "ValueError.__new__" = true)
    (kp_InvalidStore : PySem.W.keepIn K (.ref CInvalidStore) = true)
    (sb_InvalidStore : PySem.W.subIn K (.ref CInvalidStore) (.type "BaseException") = some true)
    (ty_InvalidStore : PySem.W.typeIn K (.ref CInvalidStore) = some (.type "type"))
    (n_ParseError : PySem.W.nsIn K mainGlobals "ParseError" = some (some (.ref CParseError)))
    (xc_ParseError : K.lookup CParseError = some (excClassObj nmParseError qqParseError CParseError NParseError bsParseError bmParseError true snParseError sbParseError abParseError coParseError ddParseError e0ParseError e1ParseError e2ParseError e3ParseError e5ParseError "ValueError.__new__"))
    (xb_ParseError : refsT [.type "ValueError", .type "Exception", .type "BaseException", .type "object"] bmParseError = true)
    (xsa_ParseError : PySem.W.findIn K (.ref CParseError) "__setattr__" = some (some (.builtin "object.__setattr__")))
    (xga_ParseError : PySem.W.findIn K (.ref CParseError) "__getattribute__" = some (some (.builtin "BaseException.__getattribute__")))
    (xgg_ParseError : PySem.W.findIn K (.ref CParseError) "__getattr__" = some none)
    (xno_ParseError : PySem.W.findIn K (.ref CParseError) "line" = some none)
    (xi_ParseError : PySem.W.findIn K (.ref CParseError) "__init__" = some (some (.ref fiParseError)))
    (xt_ParseError : PySem.W.typeIn K (.ref fiParseError) = some (.type "function"))
    (xk_ParseError : PySem.W.keepIn K (.ref CParseError) = true)
    (xe_ParseError : PySem.W.subIn K (.ref CParseError) (.type "BaseException") = some true)
    (xy_ParseError : PySem.W.typeIn K (.ref CParseError) = some (.type "type"))
    (xh_ParseError : PySem.W.hasDictIn K CParseError = true)
    (xl_ParseError : K.lookup fiParseError = some ⟨ocParseError, odParseError, .func (PySem.W.fnOf "__init__" "ParseError.__init__" (xA "line" ⟨21, 17, 21, 21⟩ ⟨21, 23, 21, 27⟩) (xB "line" ⟨22, 8, 22, 12⟩ ⟨22, 8, 22, 17⟩ ⟨22, 20, 22, 24⟩ ⟨22, 8, 22, 24⟩) (xS "line") .none .none dcParseError pmParseError anParseError cdParseError ctParseError), slParseError⟩)
    (xcd_ParseError : PySem.W.codeIn K cdParseError "ParseError.__init__" = true)
    (n_TooMany : PySem.W.nsIn K mainGlobals "TooMany" = some (some (.ref CTooMany)))
    (xc_TooMany : K.lookup CTooMany = some (excClassObj nmTooMany qqTooMany CTooMany NTooMany bsTooMany bmTooMany true snTooMany sbTooMany abTooMany coTooMany ddTooMany e0TooMany e1TooMany e2TooMany e3TooMany e5TooMany "OverflowError.__new__"))
    (xb_TooMany : refsT [.type "OverflowError", .type "ArithmeticError", .type "Exception", .type "BaseException", .type "object"] bmTooMany = true)
    (xsa_TooMany : PySem.W.findIn K (.ref CTooMany) "__setattr__" = some (some (.builtin "object.__setattr__")))
    (xga_TooMany : PySem.W.findIn K (.ref CTooMany) "__getattribute__" = some (some (.builtin "BaseException.__getattribute__")))
    (xgg_TooMany : PySem.W.findIn K (.ref CTooMany) "__getattr__" = some none)
    (xno_TooMany : PySem.W.findIn K (.ref CTooMany) "limit" = some none)
    (xi_TooMany : PySem.W.findIn K (.ref CTooMany) "__init__" = some (some (.ref fiTooMany)))
    (xt_TooMany : PySem.W.typeIn K (.ref fiTooMany) = some (.type "function"))
    (xk_TooMany : PySem.W.keepIn K (.ref CTooMany) = true)
    (xe_TooMany : PySem.W.subIn K (.ref CTooMany) (.type "BaseException") = some true)
    (xy_TooMany : PySem.W.typeIn K (.ref CTooMany) = some (.type "type"))
    (xh_TooMany : PySem.W.hasDictIn K CTooMany = true)
    (xl_TooMany : K.lookup fiTooMany = some ⟨ocTooMany, odTooMany, .func (PySem.W.fnOf "__init__" "TooMany.__init__" (xA "limit" ⟨29, 17, 29, 21⟩ ⟨29, 23, 29, 28⟩) (xB "limit" ⟨30, 8, 30, 12⟩ ⟨30, 8, 30, 18⟩ ⟨30, 21, 30, 26⟩ ⟨30, 8, 30, 26⟩) (xS "limit") .none .none dcTooMany pmTooMany anTooMany cdTooMany ctTooMany), slTooMany⟩)
    (xcd_TooMany : PySem.W.codeIn K cdTooMany "TooMany.__init__" = true)
    (hx : (([("InvalidNumber", CInvalidNumber), ("InvalidOperation", CInvalidOperation), ("InvalidStore", CInvalidStore), ("ParseError", CParseError), ("TooMany", CTooMany)] : List (Str × Addr)).all fun p => ([("InvalidNumber", CInvalidNumber), ("InvalidOperation", CInvalidOperation), ("InvalidStore", CInvalidStore), ("ParseError", CParseError), ("TooMany", CTooMany)] : List (Str × Addr)).all fun q => decide (PySem.W.exmOne K (.ref p.2) (.ref q.2) = some (xisa p.1 q.1))) = true)
    (a0 : PySem.W.nsIn K mainGlobals "merged" = some (some (.ref f0)))
    (l0 : K.lookup f0 = some ⟨oc0, od0, .func (PySem.W.fnOf "merged" "merged" (defArgs s_merged) (defBody s_merged) (defScope s_merged) .none kV0 dc0 pm0 an0 cd0 ct0), sl0⟩) (c0 : PySem.W.codeIn K cd0 "merged" = true) (k0 : PySem.W.keepIn K (.ref f0) = true)
    (a1 : PySem.W.findIn K (.ref CRow) "__init__" = some (some (.ref f1)))
    (i1 : PySem.W.isFn K (.ref f1) = true)
    (mi_Row : PySem.W.makesIn K CRow = true)
    (mk_Row : PySem.W.keepIn K (.ref CRow) = true)
    (l1 : K.lookup f1 = some ⟨oc1, od1, .func (PySem.W.fnOf "__init__" "Row.__init__" (defArgs s_Row_init) (defBody s_Row_init) (defScope s_Row_init) .none kV1 dc1 pm1 an1 cd1 ct1), sl1⟩) (c1 : PySem.W.codeIn K cd1 "Row.__init__" = true) (k1 : PySem.W.keepIn K (.ref f1) = true)
    (a2 : PySem.W.nsIn K mainGlobals "is_integer" = some (some (.ref f2)))
    (l2 : K.lookup f2 = some ⟨oc2, od2, .func (PySem.W.fnOf "is_integer" "is_integer" (defArgs s_is_integer) (defBody s_is_integer) (defScope s_is_integer) .none kV2 dc2 pm2 an2 cd2 ct2), sl2⟩) (c2 : PySem.W.codeIn K cd2 "is_integer" = true) (k2 : PySem.W.keepIn K (.ref f2) = true)
    (a3 : PySem.W.nsIn K mainGlobals "is_size" = some (some (.ref f3)))
    (l3 : K.lookup f3 = some ⟨oc3, od3, .func (PySem.W.fnOf "is_size" "is_size" (defArgs s_is_size) (defBody s_is_size) (defScope s_is_size) .none kV3 dc3 pm3 an3 cd3 ct3), sl3⟩) (c3 : PySem.W.codeIn K cd3 "is_size" = true) (k3 : PySem.W.keepIn K (.ref f3) = true)
    (a4 : PySem.W.nsIn K mainGlobals "is_run" = some (some (.ref f4)))
    (l4 : K.lookup f4 = some ⟨oc4, od4, .func (PySem.W.fnOf "is_run" "is_run" (defArgs s_is_run) (defBody s_is_run) (defScope s_is_run) .none kV4 dc4 pm4 an4 cd4 ct4), sl4⟩) (c4 : PySem.W.codeIn K cd4 "is_run" = true) (k4 : PySem.W.keepIn K (.ref f4) = true)
    (a5 : PySem.W.findIn K (.ref CStore) "__init__" = some (some (.ref f5)))
    (i5 : PySem.W.isFn K (.ref f5) = true)
    (mi_Store : PySem.W.makesIn K CStore = true)
    (mk_Store : PySem.W.keepIn K (.ref CStore) = true)
    (l5 : K.lookup f5 = some ⟨oc5, od5, .func (PySem.W.fnOf "__init__" "Store.__init__" (defArgs s_Store_init) (defBody s_Store_init) (defScope s_Store_init) .none kV5 dc5 pm5 an5 cd5 ct5), sl5⟩) (c5 : PySem.W.codeIn K cd5 "Store.__init__" = true) (k5 : PySem.W.keepIn K (.ref f5) = true)
    (a6 : PySem.W.nsIn K mainGlobals "store_of" = some (some (.ref f6)))
    (l6 : K.lookup f6 = some ⟨oc6, od6, .func (PySem.W.fnOf "store_of" "store_of" (defArgs s_store_of) (defBody s_store_of) (defScope s_store_of) .none kV6 dc6 pm6 an6 cd6 ct6), sl6⟩) (c6 : PySem.W.codeIn K cd6 "store_of" = true) (k6 : PySem.W.keepIn K (.ref f6) = true)
    (a7 : PySem.W.nsIn K mainGlobals "few_runs" = some (some (.ref f7)))
    (l7 : K.lookup f7 = some ⟨oc7, od7, .func (PySem.W.fnOf "few_runs" "few_runs" (defArgs s_few_runs) (defBody s_few_runs) (defScope s_few_runs) .none kV7 dc7 pm7 an7 cd7 ct7), sl7⟩) (c7 : PySem.W.codeIn K cd7 "few_runs" = true) (k7 : PySem.W.keepIn K (.ref f7) = true)
    (a8 : PySem.W.findIn K (.ref CStore) "__add__" = some (some (.ref f8)))
    (i8 : PySem.W.isFn K (.ref f8) = true)
    (l8 : K.lookup f8 = some ⟨oc8, od8, .func (PySem.W.fnOf "__add__" "Store.__add__" (defArgs s_Store_add) (defBody s_Store_add) (defScope s_Store_add) .none kV8 dc8 pm8 an8 cd8 ct8), sl8⟩) (c8 : PySem.W.codeIn K cd8 "Store.__add__" = true) (k8 : PySem.W.keepIn K (.ref f8) = true)
    (a9 : PySem.W.findIn K (.ref CStore) "number" = some (some (.ref p9)))
    (pg9 : PySem.W.specialIn K (.ref p9) "__get__" = some (some (.builtin "property.__get__")))
    (pt9 : PySem.W.takesIn K (.ref p9) = some true)
    (pc9 : PySem.W.recIn K p9 "property" = some (.ref f9 :: rs9))
    (l9 : K.lookup f9 = some ⟨oc9, od9, .func (PySem.W.fnOf "number" "Store.number" (defArgs s_Store_number) (defBody s_Store_number) (defScope s_Store_number) .none kV9 dc9 pm9 an9 cd9 ct9), sl9⟩) (c9 : PySem.W.codeIn K cd9 "Store.number" = true) (k9 : PySem.W.keepIn K (.ref f9) = true)
    (a10 : PySem.W.nsIn K mainGlobals "is_count" = some (some (.ref f10)))
    (l10 : K.lookup f10 = some ⟨oc10, od10, .func (PySem.W.fnOf "is_count" "is_count" (defArgs s_is_count) (defBody s_is_count) (defScope s_is_count) .none kV10 dc10 pm10 an10 cd10 ct10), sl10⟩) (c10 : PySem.W.codeIn K cd10 "is_count" = true) (k10 : PySem.W.keepIn K (.ref f10) = true)
    (a11 : PySem.W.nsIn K mainGlobals "require_size" = some (some (.ref f11)))
    (l11 : K.lookup f11 = some ⟨oc11, od11, .func (PySem.W.fnOf "require_size" "require_size" (defArgs s_require_size) (defBody s_require_size) (defScope s_require_size) .none kV11 dc11 pm11 an11 cd11 ct11), sl11⟩) (c11 : PySem.W.codeIn K cd11 "require_size" = true) (k11 : PySem.W.keepIn K (.ref f11) = true)
    (a12 : PySem.W.nsIn K mainGlobals "runs_between" = some (some (.ref f12)))
    (l12 : K.lookup f12 = some ⟨oc12, od12, .func (PySem.W.fnOf "runs_between" "runs_between" (defArgs s_runs_between) (defBody s_runs_between) (defScope s_runs_between) .none kV12 dc12 pm12 an12 cd12 ct12), sl12⟩) (c12 : PySem.W.codeIn K cd12 "runs_between" = true) (k12 : PySem.W.keepIn K (.ref f12) = true)
    (a13 : PySem.W.findIn K (.ref CStore) "exchanged" = some (some (.ref f13)))
    (i13 : PySem.W.isFn K (.ref f13) = true)
    (l13 : K.lookup f13 = some ⟨oc13, od13, .func (PySem.W.fnOf "exchanged" "Store.exchanged" (defArgs s_Store_exchanged) (defBody s_Store_exchanged) (defScope s_Store_exchanged) .none kV13 dc13 pm13 an13 cd13 ct13), sl13⟩) (c13 : PySem.W.codeIn K cd13 "Store.exchanged" = true) (k13 : PySem.W.keepIn K (.ref f13) = true)
    (a14 : PySem.W.findIn K (.ref CStore) "__len__" = some (some (.ref f14)))
    (i14 : PySem.W.isFn K (.ref f14) = true)
    (l14 : K.lookup f14 = some ⟨oc14, od14, .func (PySem.W.fnOf "__len__" "Store.__len__" (defArgs s_Store_len) (defBody s_Store_len) (defScope s_Store_len) .none kV14 dc14 pm14 an14 cd14 ct14), sl14⟩) (c14 : PySem.W.codeIn K cd14 "Store.__len__" = true) (k14 : PySem.W.keepIn K (.ref f14) = true)
    (a15 : PySem.W.nsIn K mainGlobals "_law_dice" = some (some (.ref f15)))
    (l15 : K.lookup f15 = some ⟨oc15, od15, .func (PySem.W.fnOf "_law_dice" "_law_dice" (defArgs s_law_dice) (defBody s_law_dice) (defScope s_law_dice) .none kV15 dc15 pm15 an15 cd15 ct15), sl15⟩) (c15 : PySem.W.codeIn K cd15 "_law_dice" = true) (k15 : PySem.W.keepIn K (.ref f15) = true)
    (a16 : PySem.W.nsIn K mainGlobals "_law_met" = some (some (.ref f16)))
    (l16 : K.lookup f16 = some ⟨oc16, od16, .func (PySem.W.fnOf "_law_met" "_law_met" (defArgs s_law_met) (defBody s_law_met) (defScope s_law_met) .none kV16 dc16 pm16 an16 cd16 ct16), sl16⟩) (c16 : PySem.W.codeIn K cd16 "_law_met" = true) (k16 : PySem.W.keepIn K (.ref f16) = true)
    (a17 : PySem.W.findIn K (.ref CStore) "capped" = some (some (.ref f17)))
    (i17 : PySem.W.isFn K (.ref f17) = true)
    (l17 : K.lookup f17 = some ⟨oc17, od17, .func (PySem.W.fnOf "capped" "Store.capped" (defArgs s_Store_capped) (defBody s_Store_capped) (defScope s_Store_capped) .none kV17 dc17 pm17 an17 cd17 ct17), sl17⟩) (c17 : PySem.W.codeIn K cd17 "Store.capped" = true) (k17 : PySem.W.keepIn K (.ref f17) = true)
    (a18 : PySem.W.findIn K (.ref CStore) "cut" = some (some (.ref f18)))
    (i18 : PySem.W.isFn K (.ref f18) = true)
    (l18 : K.lookup f18 = some ⟨oc18, od18, .func (PySem.W.fnOf "cut" "Store.cut" (defArgs s_Store_cut) (defBody s_Store_cut) (defScope s_Store_cut) .none kV18 dc18 pm18 an18 cd18 ct18), sl18⟩) (c18 : PySem.W.codeIn K cd18 "Store.cut" = true) (k18 : PySem.W.keepIn K (.ref f18) = true)
    (a19 : PySem.W.findIn K (.ref CStore) "part" = some (some (.ref f19)))
    (i19 : PySem.W.isFn K (.ref f19) = true)
    (l19 : K.lookup f19 = some ⟨oc19, od19, .func (PySem.W.fnOf "part" "Store.part" (defArgs s_Store_part) (defBody s_Store_part) (defScope s_Store_part) .none kV19 dc19 pm19 an19 cd19 ct19), sl19⟩) (c19 : PySem.W.codeIn K cd19 "Store.part" = true) (k19 : PySem.W.keepIn K (.ref f19) = true)
    (a20 : PySem.W.findIn K (.ref CStore) "room_at" = some (some (.ref f20)))
    (i20 : PySem.W.isFn K (.ref f20) = true)
    (l20 : K.lookup f20 = some ⟨oc20, od20, .func (PySem.W.fnOf "room_at" "Store.room_at" (defArgs s_Store_room_at) (defBody s_Store_room_at) (defScope s_Store_room_at) .none kV20 dc20 pm20 an20 cd20 ct20), sl20⟩) (c20 : PySem.W.codeIn K cd20 "Store.room_at" = true) (k20 : PySem.W.keepIn K (.ref f20) = true)
    (a21 : PySem.W.nsIn K mainGlobals "space_in" = some (some (.ref f21)))
    (l21 : K.lookup f21 = some ⟨oc21, od21, .func (PySem.W.fnOf "space_in" "space_in" (defArgs s_space_in) (defBody s_space_in) (defScope s_space_in) .none kV21 dc21 pm21 an21 cd21 ct21), sl21⟩) (c21 : PySem.W.codeIn K cd21 "space_in" = true) (k21 : PySem.W.keepIn K (.ref f21) = true)
    (a22 : PySem.W.findIn K (.ref CStore) "units" = some (some (.ref f22)))
    (i22 : PySem.W.isFn K (.ref f22) = true)
    (l22 : K.lookup f22 = some ⟨oc22, od22, .func (PySem.W.fnOf "units" "Store.units" (defArgs s_Store_units) (defBody s_Store_units) (defScope s_Store_units) .none kV22 dc22 pm22 an22 cd22 ct22), sl22⟩) (c22 : PySem.W.codeIn K cd22 "Store.units" = true) (k22 : PySem.W.keepIn K (.ref f22) = true)
    (a23 : PySem.W.findIn K (.ref CStore) "runs" = some (some (.ref p23)))
    (pg23 : PySem.W.specialIn K (.ref p23) "__get__" = some (some (.builtin "property.__get__")))
    (pt23 : PySem.W.takesIn K (.ref p23) = some true)
    (pc23 : PySem.W.recIn K p23 "property" = some (.ref f23 :: rs23))
    (l23 : K.lookup f23 = some ⟨oc23, od23, .func (PySem.W.fnOf "runs" "Store.runs" (defArgs s_Store_runs) (defBody s_Store_runs) (defScope s_Store_runs) .none kV23 dc23 pm23 an23 cd23 ct23), sl23⟩) (c23 : PySem.W.codeIn K cd23 "Store.runs" = true) (k23 : PySem.W.keepIn K (.ref f23) = true)
    (a24 : PySem.W.nsIn K mainGlobals "_law_first" = some (some (.ref f24)))
    (l24 : K.lookup f24 = some ⟨oc24, od24, .func (PySem.W.fnOf "_law_first" "_law_first" (defArgs s_law_first) (defBody s_law_first) (defScope s_law_first) .none kV24 dc24 pm24 an24 cd24 ct24), sl24⟩) (c24 : PySem.W.codeIn K cd24 "_law_first" = true) (k24 : PySem.W.keepIn K (.ref f24) = true)
    (a25 : PySem.W.nsIn K mainGlobals "_law_is_int" = some (some (.ref f25)))
    (l25 : K.lookup f25 = some ⟨oc25, od25, .func (PySem.W.fnOf "_law_is_int" "_law_is_int" (defArgs s_law_is_int) (defBody s_law_is_int) (defScope s_law_is_int) .none kV25 dc25 pm25 an25 cd25 ct25), sl25⟩) (c25 : PySem.W.codeIn K cd25 "_law_is_int" = true) (k25 : PySem.W.keepIn K (.ref f25) = true)
    (a26 : PySem.W.nsIn K mainGlobals "_law_roll" = some (some (.ref f26)))
    (l26 : K.lookup f26 = some ⟨oc26, od26, .func (PySem.W.fnOf "_law_roll" "_law_roll" (defArgs s_law_roll) (defBody s_law_roll) (defScope s_law_roll) .none kV26 dc26 pm26 an26 cd26 ct26), sl26⟩) (c26 : PySem.W.codeIn K cd26 "_law_roll" = true) (k26 : PySem.W.keepIn K (.ref f26) = true)
    (a27 : PySem.W.nsIn K mainGlobals "_law_pick" = some (some (.ref f27)))
    (l27 : K.lookup f27 = some ⟨oc27, od27, .func (PySem.W.fnOf "_law_pick" "_law_pick" (defArgs s_law_pick) (defBody s_law_pick) (defScope s_law_pick) .none kV27 dc27 pm27 an27 cd27 ct27), sl27⟩) (c27 : PySem.W.codeIn K cd27 "_law_pick" = true) (k27 : PySem.W.keepIn K (.ref f27) = true)
    (a28 : PySem.W.nsIn K mainGlobals "_law_word" = some (some (.ref f28)))
    (l28 : K.lookup f28 = some ⟨oc28, od28, .func (PySem.W.fnOf "_law_word" "_law_word" (defArgs s_law_word) (defBody s_law_word) (defScope s_law_word) .none kV28 dc28 pm28 an28 cd28 ct28), sl28⟩) (c28 : PySem.W.codeIn K cd28 "_law_word" = true) (k28 : PySem.W.keepIn K (.ref f28) = true)
    (a29 : PySem.W.nsIn K mainGlobals "_law_right" = some (some (.ref f29)))
    (l29 : K.lookup f29 = some ⟨oc29, od29, .func (PySem.W.fnOf "_law_right" "_law_right" (defArgs s_law_right) (defBody s_law_right) (defScope s_law_right) .none kV29 dc29 pm29 an29 (.ref cc29) ct29), sl29⟩) (c29 : PySem.W.codeIn K (.ref cc29) "_law_right" = true) (k29 : PySem.W.keepIn K (.ref f29) = true)
    (tc29 : K.lookup cc29 = some ⟨te29, td29, .fields tv29, tl29⟩)
    (tp29 : tv29[11]? = some (.ref tP29))
    (tn29 : K.lookup tP29 = none)
    (tr29 : ((recsOf q).any fun e => e.name == "_law_right") = true)
    (a30 : PySem.W.nsIn K mainGlobals "_law_row_of" = some (some (.ref f30)))
    (l30 : K.lookup f30 = some ⟨oc30, od30, .func (PySem.W.fnOf "_law_row_of" "_law_row_of" (defArgs s_law_row_of) (defBody s_law_row_of) (defScope s_law_row_of) .none kV30 dc30 pm30 an30 cd30 ct30), sl30⟩) (c30 : PySem.W.codeIn K cd30 "_law_row_of" = true) (k30 : PySem.W.keepIn K (.ref f30) = true)
    (a31 : PySem.W.nsIn K mainGlobals "_law_runs_right" = some (some (.ref f31)))
    (l31 : K.lookup f31 = some ⟨oc31, od31, .func (PySem.W.fnOf "_law_runs_right" "_law_runs_right" (defArgs s_law_runs_right) (defBody s_law_runs_right) (defScope s_law_runs_right) .none kV31 dc31 pm31 an31 (.ref cc31) ct31), sl31⟩) (c31 : PySem.W.codeIn K (.ref cc31) "_law_runs_right" = true) (k31 : PySem.W.keepIn K (.ref f31) = true)
    (tc31 : K.lookup cc31 = some ⟨te31, td31, .fields tv31, tl31⟩)
    (tp31 : tv31[11]? = some (.ref tP31))
    (tn31 : K.lookup tP31 = none)
    (tr31 : ((recsOf q).any fun e => e.name == "_law_runs_right") = true)
    (a32 : PySem.W.nsIn K mainGlobals "law" = some (some (.ref f32)))
    (l32 : K.lookup f32 = some ⟨oc32, od32, .func (PySem.W.fnOf "law" "law" (defArgs s_law) (defBody s_law) (defScope s_law) .none kV32 dc32 pm32 an32 (.ref cc32) ct32), sl32⟩) (c32 : PySem.W.codeIn K (.ref cc32) "law" = true) (k32 : PySem.W.keepIn K (.ref f32) = true)
    (tc32 : K.lookup cc32 = some ⟨te32, td32, .fields tv32, tl32⟩)
    (tp32 : tv32[11]? = some (.ref tP32))
    (tn32 : K.lookup tP32 = none)
    (tr32 : ((recsOf q).any fun e => e.name == "law") = true)
    (z_abs : PySem.W.nsIn K mainGlobals "abs" = some none)
    (z_all : PySem.W.nsIn K mainGlobals "all" = some none)
    (z_bool : PySem.W.nsIn K mainGlobals "bool" = some none)
    (z_int : PySem.W.nsIn K mainGlobals "int" = some none)
    (z_isinstance : PySem.W.nsIn K mainGlobals "isinstance" = some none)
    (z_len : PySem.W.nsIn K mainGlobals "len" = some none)
    (z_max : PySem.W.nsIn K mainGlobals "max" = some none)
    (z_min : PySem.W.nsIn K mainGlobals "min" = some none)
    (z_range : PySem.W.nsIn K mainGlobals "range" = some none)
    (z_repr : PySem.W.nsIn K mainGlobals "repr" = some none)
    (z_sum : PySem.W.nsIn K mainGlobals "sum" = some none)
    (z_tuple : PySem.W.nsIn K mainGlobals "tuple" = some none)
    (g_LIMIT : PySem.W.nsIn K mainGlobals "LIMIT" = some (some (.int 100000000000000000000000000000000000000000000000000000000000000000000000000000000000000000000000000000000000000000000000000000000000000000000000000000000000000000000000000000000000000000000000000000000 t_LIMIT)))
    (g_MAX_RUNS : PySem.W.nsIn K mainGlobals "MAX_RUNS" = some (some (.int 40 t_MAX_RUNS)))
    (hND : ([tP29, tP31, tP32] : List Addr).Nodup) :
    ∃ (TT : List (Addr × Str)) (cs : List (Addr × Addr)), (∀ p ∈ TT, p.1 ∈ cs.map (·.2)) ∧ (∀ p ∈ cs, ∃ dn fc, LamAt K mg q dn fc p.1 p.2) ∧ ∀ base : Heap, K.In base → base.Ns mainGlobals mg → (∀ p ∈ cs, LamX.TabB base mg p.1 p.2) → @FnD ⟨TT⟩ l.prog w K mg base 12 fa m_law := by
  have e := hfa.symm.trans (PySem.W.mg_of X G a32)
  cases e
  refine ⟨[(tP29, ("_law_right.<locals>.<lambda>" : Str)), (tP31, ("_law_runs_right.<locals>.<lambda>" : Str)), (tP32, ("law.<locals>.<lambda>" : Str))], [(cc29, tP29), (cc31, tP31), (cc32, tP32)], ?_, ?_, fun base _ _ TB => ?_⟩
  · intro p hp; simp only [List.mem_cons, List.not_mem_nil, or_false] at hp; rcases hp with rfl | rfl | rfl <;> simp
  · intro p hp; simp only [List.mem_cons, List.not_mem_nil, or_false] at hp; rcases hp with rfl | rfl | rfl
    · exact ⟨"_law_right", f29, PySem.W.mg_of X G a29, tr29, ⟨_, _, l29, rfl, rfl⟩, ⟨_, _, _, _, tc29, tp29⟩, tn29⟩
    · exact ⟨"_law_runs_right", f31, PySem.W.mg_of X G a31, tr31, ⟨_, _, l31, rfl, rfl⟩, ⟨_, _, _, _, tc31, tp31⟩, tn31⟩
    · exact ⟨"law", fa, PySem.W.mg_of X G a32, tr32, ⟨_, _, l32, rfl, rfl⟩, ⟨_, _, _, _, tc32, tp32⟩, tn32⟩
  letI : TabsC := ⟨[(tP29, ("_law_right.<locals>.<lambda>" : Str)), (tP31, ("_law_runs_right.<locals>.<lambda>" : Str)), (tP32, ("law.<locals>.<lambda>" : Str))]⟩
  let T : Txt K mg base := {
    C_Row := CRow,
    n_Row := n_Row,
    g_Row := PySem.W.mg_of X G n_Row,
    cl_Row := (insTy_of ct_Row).cl,
    ki_Row := ki_Row,
    C_Store := CStore,
    n_Store := n_Store,
    g_Store := PySem.W.mg_of X G n_Store,
    cl_Store := (insTy_of ct_Store).cl,
    ki_Store := ki_Store,
    kits := KitOwn.of [("Row", CRow), ("Store", CStore)] rfl (by decide) (by intro p hp; simp only [List.mem_cons, List.not_mem_nil, or_false] at hp; rcases hp with rfl | rfl <;> assumption) kk2 kk3,
    no_Row_own_runs := no_Row_own_runs,
    no_Store_own_runs := no_Store_own_runs,
    C_InvalidNumber := CInvalidNumber,
    n_InvalidNumber := n_InvalidNumber,
    g_InvalidNumber := PySem.W.mg_of X G n_InvalidNumber,
    fi_InvalidNumber := fiInvalidNumber,
    x_InvalidNumber := ⟨⟨_, _, _, _, _, _, _, _, _, _, _, _, _, _, _, xc_InvalidNumber, xb_InvalidNumber⟩, xsa_InvalidNumber, xga_InvalidNumber, xgg_InvalidNumber, xno_InvalidNumber, xi_InvalidNumber, xt_InvalidNumber, xk_InvalidNumber, xe_InvalidNumber, xy_InvalidNumber, xh_InvalidNumber, ⟨_, _, _, _, _, _, _, _, _, _, _, _, _, _, xl_InvalidNumber, xcd_InvalidNumber⟩⟩,
    xf_InvalidNumber := ⟨xga_InvalidNumber, xgg_InvalidNumber, xe_InvalidNumber, xh_InvalidNumber⟩,
    C_InvalidOperation := CInvalidOperation,
    n_InvalidOperation := n_InvalidOperation,
    g_InvalidOperation := PySem.W.mg_of X G n_InvalidOperation,
    xi_InvalidOperation := xi_InvalidOperation,
    kp_InvalidOperation := kp_InvalidOperation,
    sb_InvalidOperation := sb_InvalidOperation,
    ty_InvalidOperation := ty_InvalidOperation,
    C_InvalidStore := CInvalidStore,
    n_InvalidStore := n_InvalidStore,
    g_InvalidStore := PySem.W.mg_of X G n_InvalidStore,
    xi_InvalidStore := xi_InvalidStore,
    kp_InvalidStore := kp_InvalidStore,
    sb_InvalidStore := sb_InvalidStore,
    ty_InvalidStore := ty_InvalidStore,
    C_ParseError := CParseError,
    n_ParseError := n_ParseError,
    g_ParseError := PySem.W.mg_of X G n_ParseError,
    fi_ParseError := fiParseError,
    x_ParseError := ⟨⟨_, _, _, _, _, _, _, _, _, _, _, _, _, _, _, xc_ParseError, xb_ParseError⟩, xsa_ParseError, xga_ParseError, xgg_ParseError, xno_ParseError, xi_ParseError, xt_ParseError, xk_ParseError, xe_ParseError, xy_ParseError, xh_ParseError, ⟨_, _, _, _, _, _, _, _, _, _, _, _, _, _, xl_ParseError, xcd_ParseError⟩⟩,
    xf_ParseError := ⟨xga_ParseError, xgg_ParseError, xe_ParseError, xh_ParseError⟩,
    C_TooMany := CTooMany,
    n_TooMany := n_TooMany,
    g_TooMany := PySem.W.mg_of X G n_TooMany,
    fi_TooMany := fiTooMany,
    x_TooMany := ⟨⟨_, _, _, _, _, _, _, _, _, _, _, _, _, _, _, xc_TooMany, xb_TooMany⟩, xsa_TooMany, xga_TooMany, xgg_TooMany, xno_TooMany, xi_TooMany, xt_TooMany, xk_TooMany, xe_TooMany, xy_TooMany, xh_TooMany, ⟨_, _, _, _, _, _, _, _, _, _, _, _, _, _, xl_TooMany, xcd_TooMany⟩⟩,
    xf_TooMany := ⟨xga_TooMany, xgg_TooMany, xe_TooMany, xh_TooMany⟩,
    isa := HIsa.of [("InvalidNumber", CInvalidNumber), ("InvalidOperation", CInvalidOperation), ("InvalidStore", CInvalidStore), ("ParseError", CParseError), ("TooMany", CTooMany)] rfl (by intro p hp; simp only [List.mem_cons, List.not_mem_nil, or_false] at hp; rcases hp with rfl | rfl | rfl | rfl | rfl <;> assumption) hx,
    f_merged := f0,
    d_merged := _,
    F_merged := fun_mk (st := s_merged) l0 c0 k0,
    m_merged := PySem.W.mg_of X G a0,
    k_merged := k0,
    b_merged := (fun_mk (st := s_merged) l0 c0 k0).binds fun _ _ _ _ _ _ us hl => match us, hl with | [_], _ => rfl,
    mk_Row := ⟨mi_Row, a1, i1, mk_Row⟩,
    f_Row_init := f1,
    d_Row_init := _,
    F_Row_init := fun_mk (st := s_Row_init) l1 c1 k1,
    b_Row_init := (fun_mk (st := s_Row_init) l1 c1 k1).binds fun _ _ _ _ _ _ us hl => match us, hl with | [_, _], _ => rfl,
    f_is_integer := f2,
    d_is_integer := _,
    F_is_integer := fun_mk (st := s_is_integer) l2 c2 k2,
    m_is_integer := PySem.W.mg_of X G a2,
    k_is_integer := k2,
    b_is_integer := (fun_mk (st := s_is_integer) l2 c2 k2).binds fun _ _ _ _ _ _ us hl => match us, hl with | [_], _ => rfl,
    f_is_size := f3,
    d_is_size := _,
    F_is_size := fun_mk (st := s_is_size) l3 c3 k3,
    m_is_size := PySem.W.mg_of X G a3,
    k_is_size := k3,
    b_is_size := (fun_mk (st := s_is_size) l3 c3 k3).binds fun _ _ _ _ _ _ us hl => match us, hl with | [_], _ => rfl,
    f_is_run := f4,
    d_is_run := _,
    F_is_run := fun_mk (st := s_is_run) l4 c4 k4,
    m_is_run := PySem.W.mg_of X G a4,
    k_is_run := k4,
    b_is_run := (fun_mk (st := s_is_run) l4 c4 k4).binds fun _ _ _ _ _ _ us hl => match us, hl with | [_], _ => rfl,
    mk_Store := ⟨mi_Store, a5, i5, mk_Store⟩,
    f_Store_init := f5,
    d_Store_init := _,
    F_Store_init := fun_mk (st := s_Store_init) l5 c5 k5,
    b_Store_init := StX.bind_star1 (B := fun xs => bindArgs _ ⟨xs, []⟩) (fun a => rfl) (fun a r rs => rfl),
    f_store_of := f6,
    d_store_of := _,
    F_store_of := fun_mk (st := s_store_of) l6 c6 k6,
    m_store_of := PySem.W.mg_of X G a6,
    k_store_of := k6,
    b_store_of := (fun_mk (st := s_store_of) l6 c6 k6).binds fun _ _ _ _ _ _ us hl => match us, hl with | [_], _ => rfl,
    f_few_runs := f7,
    d_few_runs := _,
    F_few_runs := fun_mk (st := s_few_runs) l7 c7 k7,
    m_few_runs := PySem.W.mg_of X G a7,
    k_few_runs := k7,
    b_few_runs := (fun_mk (st := s_few_runs) l7 c7 k7).binds fun _ _ _ _ _ _ us hl => match us, hl with | [_], _ => rfl,
    f_Store_add := f8,
    d_Store_add := _,
    F_Store_add := fun_mk (st := s_Store_add) l8 c8 k8,
    me_Store_add := ⟨a8, i8, k8⟩,
    b_Store_add := (fun_mk (st := s_Store_add) l8 c8 k8).binds fun _ _ _ _ _ _ us hl => match us, hl with | [_, _], _ => rfl,
    p_Store_number := p9,
    pr_Store_number := ⟨a9, pg9, pt9, _, pc9⟩,
    f_Store_number := f9,
    d_Store_number := _,
    F_Store_number := fun_mk (st := s_Store_number) l9 c9 k9,
    b_Store_number := (fun_mk (st := s_Store_number) l9 c9 k9).binds fun _ _ _ _ _ _ us hl => match us, hl with | [_], _ => rfl,
    f_is_count := f10,
    d_is_count := _,
    F_is_count := fun_mk (st := s_is_count) l10 c10 k10,
    m_is_count := PySem.W.mg_of X G a10,
    k_is_count := k10,
    b_is_count := (fun_mk (st := s_is_count) l10 c10 k10).binds fun _ _ _ _ _ _ us hl => match us, hl with | [_], _ => rfl,
    f_require_size := f11,
    d_require_size := _,
    F_require_size := fun_mk (st := s_require_size) l11 c11 k11,
    m_require_size := PySem.W.mg_of X G a11,
    k_require_size := k11,
    b_require_size := (fun_mk (st := s_require_size) l11 c11 k11).binds fun _ _ _ _ _ _ us hl => match us, hl with | [_], _ => rfl,
    f_runs_between := f12,
    d_runs_between := _,
    F_runs_between := fun_mk (st := s_runs_between) l12 c12 k12,
    m_runs_between := PySem.W.mg_of X G a12,
    k_runs_between := k12,
    b_runs_between := (fun_mk (st := s_runs_between) l12 c12 k12).binds fun _ _ _ _ _ _ us hl => match us, hl with | [_, _, _], _ => rfl,
    f_Store_exchanged := f13,
    d_Store_exchanged := _,
    F_Store_exchanged := fun_mk (st := s_Store_exchanged) l13 c13 k13,
    me_Store_exchanged := ⟨a13, i13, k13⟩,
    b_Store_exchanged := (fun_mk (st := s_Store_exchanged) l13 c13 k13).binds fun _ _ _ _ _ _ us hl => match us, hl with | [_, _, _], _ => rfl,
    f_Store_len := f14,
    d_Store_len := _,
    F_Store_len := fun_mk (st := s_Store_len) l14 c14 k14,
    me_Store_len := ⟨a14, i14, k14⟩,
    b_Store_len := (fun_mk (st := s_Store_len) l14 c14 k14).binds fun _ _ _ _ _ _ us hl => match us, hl with | [_], _ => rfl,
    f_law_dice := f15,
    d_law_dice := _,
    F_law_dice := fun_mk (st := s_law_dice) l15 c15 k15,
    m_law_dice := PySem.W.mg_of X G a15,
    k_law_dice := k15,
    b_law_dice := (fun_mk (st := s_law_dice) l15 c15 k15).binds fun _ _ _ _ _ _ us hl => match us, hl with | [_, _], _ => rfl,
    f_law_met := f16,
    d_law_met := _,
    F_law_met := fun_mk (st := s_law_met) l16 c16 k16,
    m_law_met := PySem.W.mg_of X G a16,
    k_law_met := k16,
    b_law_met := (fun_mk (st := s_law_met) l16 c16 k16).binds fun _ _ _ _ _ _ us hl => match us, hl with | [_], _ => rfl,
    f_Store_capped := f17,
    d_Store_capped := _,
    F_Store_capped := fun_mk (st := s_Store_capped) l17 c17 k17,
    me_Store_capped := ⟨a17, i17, k17⟩,
    b_Store_capped := (fun_mk (st := s_Store_capped) l17 c17 k17).binds fun _ _ _ _ _ _ us hl => match us, hl with | [_, _], _ => rfl,
    f_Store_cut := f18,
    d_Store_cut := _,
    F_Store_cut := fun_mk (st := s_Store_cut) l18 c18 k18,
    me_Store_cut := ⟨a18, i18, k18⟩,
    b_Store_cut := (fun_mk (st := s_Store_cut) l18 c18 k18).binds fun _ _ _ _ _ _ us hl => match us, hl with | [_, _], _ => rfl,
    f_Store_part := f19,
    d_Store_part := _,
    F_Store_part := fun_mk (st := s_Store_part) l19 c19 k19,
    me_Store_part := ⟨a19, i19, k19⟩,
    b_Store_part := (fun_mk (st := s_Store_part) l19 c19 k19).binds fun _ _ _ _ _ _ us hl => match us, hl with | [_, _, _], _ => rfl,
    f_Store_room_at := f20,
    d_Store_room_at := _,
    F_Store_room_at := fun_mk (st := s_Store_room_at) l20 c20 k20,
    me_Store_room_at := ⟨a20, i20, k20⟩,
    b_Store_room_at := (fun_mk (st := s_Store_room_at) l20 c20 k20).binds fun _ _ _ _ _ _ us hl => match us, hl with | [_, _], _ => rfl,
    f_space_in := f21,
    d_space_in := _,
    F_space_in := fun_mk (st := s_space_in) l21 c21 k21,
    m_space_in := PySem.W.mg_of X G a21,
    k_space_in := k21,
    b_space_in := (fun_mk (st := s_space_in) l21 c21 k21).binds fun _ _ _ _ _ _ us hl => match us, hl with | [_, _], _ => rfl,
    f_Store_units := f22,
    d_Store_units := _,
    F_Store_units := fun_mk (st := s_Store_units) l22 c22 k22,
    me_Store_units := ⟨a22, i22, k22⟩,
    b_Store_units := (fun_mk (st := s_Store_units) l22 c22 k22).binds fun _ _ _ _ _ _ us hl => match us, hl with | [_, _], _ => rfl,
    p_Store_runs := p23,
    pr_Store_runs := ⟨a23, pg23, pt23, _, pc23⟩,
    f_Store_runs := f23,
    d_Store_runs := _,
    F_Store_runs := fun_mk (st := s_Store_runs) l23 c23 k23,
    b_Store_runs := (fun_mk (st := s_Store_runs) l23 c23 k23).binds fun _ _ _ _ _ _ us hl => match us, hl with | [_], _ => rfl,
    f_law_first := f24,
    d_law_first := _,
    F_law_first := fun_mk (st := s_law_first) l24 c24 k24,
    m_law_first := PySem.W.mg_of X G a24,
    k_law_first := k24,
    b_law_first := (fun_mk (st := s_law_first) l24 c24 k24).binds fun _ _ _ _ _ _ us hl => match us, hl with | [_], _ => rfl,
    f_law_is_int := f25,
    d_law_is_int := _,
    F_law_is_int := fun_mk (st := s_law_is_int) l25 c25 k25,
    m_law_is_int := PySem.W.mg_of X G a25,
    k_law_is_int := k25,
    b_law_is_int := (fun_mk (st := s_law_is_int) l25 c25 k25).binds fun _ _ _ _ _ _ us hl => match us, hl with | [_, _], _ => rfl,
    f_law_roll := f26,
    d_law_roll := _,
    F_law_roll := fun_mk (st := s_law_roll) l26 c26 k26,
    m_law_roll := PySem.W.mg_of X G a26,
    k_law_roll := k26,
    b_law_roll := (fun_mk (st := s_law_roll) l26 c26 k26).binds fun _ _ _ _ _ _ us hl => match us, hl with | [_, _], _ => rfl,
    f_law_pick := f27,
    d_law_pick := _,
    F_law_pick := fun_mk (st := s_law_pick) l27 c27 k27,
    m_law_pick := PySem.W.mg_of X G a27,
    k_law_pick := k27,
    b_law_pick := (fun_mk (st := s_law_pick) l27 c27 k27).binds fun _ _ _ _ _ _ us hl => match us, hl with | [_, _], _ => rfl,
    f_law_word := f28,
    d_law_word := _,
    F_law_word := fun_mk (st := s_law_word) l28 c28 k28,
    m_law_word := PySem.W.mg_of X G a28,
    k_law_word := k28,
    b_law_word := (fun_mk (st := s_law_word) l28 c28 k28).binds fun _ _ _ _ _ _ us hl => match us, hl with | [_, _, _], _ => rfl,
    f_law_right := f29,
    d_law_right := _,
    F_law_right := fun_mk (st := s_law_right) l29 c29 k29,
    m_law_right := PySem.W.mg_of X G a29,
    k_law_right := k29,
    b_law_right := (fun_mk (st := s_law_right) l29 c29 k29).binds fun _ _ _ _ _ _ us hl => match us, hl with | [_, _], _ => rfl,
    f_law_row_of := f30,
    d_law_row_of := _,
    F_law_row_of := fun_mk (st := s_law_row_of) l30 c30 k30,
    m_law_row_of := PySem.W.mg_of X G a30,
    k_law_row_of := k30,
    b_law_row_of := (fun_mk (st := s_law_row_of) l30 c30 k30).binds fun _ _ _ _ _ _ us hl => match us, hl with | [_], _ => rfl,
    f_law_runs_right := f31,
    d_law_runs_right := _,
    F_law_runs_right := fun_mk (st := s_law_runs_right) l31 c31 k31,
    m_law_runs_right := PySem.W.mg_of X G a31,
    k_law_runs_right := k31,
    b_law_runs_right := (fun_mk (st := s_law_runs_right) l31 c31 k31).binds fun _ _ _ _ _ _ us hl => match us, hl with | [_], _ => rfl,
    f_law := fa,
    d_law := _,
    F_law := fun_mk (st := s_law) l32 c32 k32,
    m_law := PySem.W.mg_of X G a32,
    k_law := k32,
    b_law := (fun_mk (st := s_law) l32 c32 k32).binds fun _ _ _ _ _ _ us hl => match us, hl with | [_], _ => rfl,
    bn_Store_add := ⟨i8, a8, br_Store_add, bs_Store_add, ba_Store_add⟩,
    len_Store := ⟨i14, a14⟩,
    c_law_right := cc29,
    P_law_right := tP29,
    cd_law_right := rfl,
    tb_law_right := TB _ List.mem_cons_self,
    tm_law_right := List.mem_cons_self,
    tu_law_right := tabs_u (T := [(tP29, ("_law_right.<locals>.<lambda>" : Str)), (tP31, ("_law_runs_right.<locals>.<lambda>" : Str)), (tP32, ("law.<locals>.<lambda>" : Str))]) hND (p := (tP29, "_law_right.<locals>.<lambda>")) List.mem_cons_self,
    c_law_runs_right := cc31,
    P_law_runs_right := tP31,
    cd_law_runs_right := rfl,
    tb_law_runs_right := TB _ (List.mem_cons_of_mem _ List.mem_cons_self),
    tm_law_runs_right := (List.mem_cons_of_mem _ List.mem_cons_self),
    tu_law_runs_right := tabs_u (T := [(tP29, ("_law_right.<locals>.<lambda>" : Str)), (tP31, ("_law_runs_right.<locals>.<lambda>" : Str)), (tP32, ("law.<locals>.<lambda>" : Str))]) hND (p := (tP31, "_law_runs_right.<locals>.<lambda>")) (List.mem_cons_of_mem _ List.mem_cons_self),
    c_law := cc32,
    P_law := tP32,
    cd_law := rfl,
    tb_law := TB _ (List.mem_cons_of_mem _ (List.mem_cons_of_mem _ List.mem_cons_self)),
    tm_law := (List.mem_cons_of_mem _ (List.mem_cons_of_mem _ List.mem_cons_self)),
    tu_law := tabs_u (T := [(tP29, ("_law_right.<locals>.<lambda>" : Str)), (tP31, ("_law_runs_right.<locals>.<lambda>" : Str)), (tP32, ("law.<locals>.<lambda>" : Str))]) hND (p := (tP32, "law.<locals>.<lambda>")) (List.mem_cons_of_mem _ (List.mem_cons_of_mem _ List.mem_cons_self)),
    z_abs := PySem.W.mg_none_of X G z_abs,
    z_all := PySem.W.mg_none_of X G z_all,
    z_bool := PySem.W.mg_none_of X G z_bool,
    z_int := PySem.W.mg_none_of X G z_int,
    z_isinstance := PySem.W.mg_none_of X G z_isinstance,
    z_len := PySem.W.mg_none_of X G z_len,
    z_max := PySem.W.mg_none_of X G z_max,
    z_min := PySem.W.mg_none_of X G z_min,
    z_range := PySem.W.mg_none_of X G z_range,
    z_repr := PySem.W.mg_none_of X G z_repr,
    z_sum := PySem.W.mg_none_of X G z_sum,
    z_tuple := PySem.W.mg_none_of X G z_tuple,
    t_LIMIT := t_LIMIT,
    g_LIMIT := PySem.W.mg_of X G g_LIMIT,
    t_MAX_RUNS := t_MAX_RUNS,
    g_MAX_RUNS := PySem.W.mg_of X G g_MAX_RUNS }
  exact ok_law T
end DL.Law
open PySem PySem.W PyProof.Rows
set_option maxRecDepth 100000 in
set_option maxHeartbeats 0 in
theorem PySem.Challenge.cw_chainpacks_k18_errors_of_stores_holds : PySem.Challenge.rw_chainpacks_k18_errors_of_stores.Holds := by
  w_on; o_law; k_head; (case hw => w_witness2)
  k_fill
  refine DL.walkDU (l := PySem.Challenge.rw_chainpacks_k18_errors_of_stores) (m := DL.Law.m_law) (k := 12) (by decide +kernel) rfl rfl ⟨rfl, by decide, by decide⟩ (fun w h Y => PySem.W.km_in_of Y) (@DL.Law.law_true ⟨[]⟩) ?F
  case F =>
    intro w mg fa h KX G hmg
    refine' DL.Law.all_mk KX G hmg ?n_Row ?ct_Row ?ki_Row ?n_Store ?ct_Store ?ki_Store ?kk2 ?kk3 ?no_Row_own_runs ?no_Store_own_runs ?br_Store_add ?bs_Store_add ?ba_Store_add ?n_InvalidNumber ?xc_InvalidNumber ?xb_InvalidNumber ?xsa_InvalidNumber ?xga_InvalidNumber ?xgg_InvalidNumber ?xno_InvalidNumber ?xi_InvalidNumber ?xt_InvalidNumber ?xk_InvalidNumber ?xe_InvalidNumber ?xy_InvalidNumber ?xh_InvalidNumber ?xl_InvalidNumber ?xcd_InvalidNumber ?n_InvalidOperation ?xi_InvalidOperation ?kp_InvalidOperation ?sb_InvalidOperation ?ty_InvalidOperation ?n_InvalidStore ?xi_InvalidStore ?kp_InvalidStore ?sb_InvalidStore ?ty_InvalidStore ?n_ParseError ?xc_ParseError ?xb_ParseError ?xsa_ParseError ?xga_ParseError ?xgg_ParseError ?xno_ParseError ?xi_ParseError ?xt_ParseError ?xk_ParseError ?xe_ParseError ?xy_ParseError ?xh_ParseError ?xl_ParseError ?xcd_ParseError ?n_TooMany ?xc_TooMany ?xb_TooMany ?xsa_TooMany ?xga_TooMany ?xgg_TooMany ?xno_TooMany ?xi_TooMany ?xt_TooMany ?xk_TooMany ?xe_TooMany ?xy_TooMany ?xh_TooMany ?xl_TooMany ?xcd_TooMany ?hx ?a0 ?l0 ?c0 ?k0 ?a1 ?i1 ?mi_Row ?mk_Row ?l1 ?c1 ?k1 ?a2 ?l2 ?c2 ?k2 ?a3 ?l3 ?c3 ?k3 ?a4 ?l4 ?c4 ?k4 ?a5 ?i5 ?mi_Store ?mk_Store ?l5 ?c5 ?k5 ?a6 ?l6 ?c6 ?k6 ?a7 ?l7 ?c7 ?k7 ?a8 ?i8 ?l8 ?c8 ?k8 ?a9 ?pg9 ?pt9 ?pc9 ?l9 ?c9 ?k9 ?a10 ?l10 ?c10 ?k10 ?a11 ?l11 ?c11 ?k11 ?a12 ?l12 ?c12 ?k12 ?a13 ?i13 ?l13 ?c13 ?k13 ?a14 ?i14 ?l14 ?c14 ?k14 ?a15 ?l15 ?c15 ?k15 ?a16 ?l16 ?c16 ?k16 ?a17 ?i17 ?l17 ?c17 ?k17 ?a18 ?i18 ?l18 ?c18 ?k18 ?a19 ?i19 ?l19 ?c19 ?k19 ?a20 ?i20 ?l20 ?c20 ?k20 ?a21 ?l21 ?c21 ?k21 ?a22 ?i22 ?l22 ?c22 ?k22 ?a23 ?pg23 ?pt23 ?pc23 ?l23 ?c23 ?k23 ?a24 ?l24 ?c24 ?k24 ?a25 ?l25 ?c25 ?k25 ?a26 ?l26 ?c26 ?k26 ?a27 ?l27 ?c27 ?k27 ?a28 ?l28 ?c28 ?k28 ?a29 ?l29 ?c29 ?k29 ?tc29 ?tp29 ?tn29 ?tr29 ?a30 ?l30 ?c30 ?k30 ?a31 ?l31 ?c31 ?k31 ?tc31 ?tp31 ?tn31 ?tr31 ?a32 ?l32 ?c32 ?k32 ?tc32 ?tp32 ?tn32 ?tr32 ?z_abs ?z_all ?z_bool ?z_int ?z_isinstance ?z_len ?z_max ?z_min ?z_range ?z_repr ?z_sum ?z_tuple ?g_LIMIT ?g_MAX_RUNS ?hND
    (case n_Row => first | k_is | kernel_rfl)
    (case ct_Row => first | k_is | kernel_rfl)
    (case ki_Row => first | k_is | kernel_rfl)
    (case n_Store => first | k_is | kernel_rfl)
    (case ct_Store => first | k_is | kernel_rfl)
    (case ki_Store => first | k_is | kernel_rfl)
    (case kk2 => first | k_is | kernel_rfl)
    (case kk3 => first | k_is | kernel_rfl)
    (case no_Row_own_runs => first | k_is | kernel_rfl)
    (case no_Store_own_runs => first | k_is | kernel_rfl)
    (case br_Store_add => first | k_is | kernel_rfl)
    (case bs_Store_add => first | k_is | kernel_rfl)
    (case ba_Store_add => first | k_is | kernel_rfl)
    (case n_InvalidNumber => first | k_is | kernel_rfl)
    (case xc_InvalidNumber => first | k_is | kernel_rfl)
    (case xb_InvalidNumber => decide)
    (case xsa_InvalidNumber => first | k_is | kernel_rfl)
    (case xga_InvalidNumber => first | k_is | kernel_rfl)
    (case xgg_InvalidNumber => first | k_is | kernel_rfl)
    (case xno_InvalidNumber => first | k_is | kernel_rfl)
    (case xi_InvalidNumber => first | k_is | kernel_rfl)
    (case xt_InvalidNumber => first | k_is | kernel_rfl)
    (case xk_InvalidNumber => first | k_is | kernel_rfl)
    (case xe_InvalidNumber => first | k_is | kernel_rfl)
    (case xy_InvalidNumber => first | k_is | kernel_rfl)
    (case xh_InvalidNumber => first | k_is | kernel_rfl)
    (case xl_InvalidNumber => first | k_is | kernel_rfl)
    (case xcd_InvalidNumber => first | k_is | kernel_rfl)
    (case n_InvalidOperation => first | k_is | kernel_rfl)
    (case xi_InvalidOperation => first | k_is | kernel_rfl)
    (case kp_InvalidOperation => first | k_is | kernel_rfl)
    (case sb_InvalidOperation => first | k_is | kernel_rfl)
    (case ty_InvalidOperation => first | k_is | kernel_rfl)
    (case n_InvalidStore => first | k_is | kernel_rfl)
    (case xi_InvalidStore => first | k_is | kernel_rfl)
    (case kp_InvalidStore => first | k_is | kernel_rfl)
    (case sb_InvalidStore => first | k_is | kernel_rfl)
    (case ty_InvalidStore => first | k_is | kernel_rfl)
    (case n_ParseError => first | k_is | kernel_rfl)
    (case xc_ParseError => first | k_is | kernel_rfl)
    (case xb_ParseError => decide)
    (case xsa_ParseError => first | k_is | kernel_rfl)
    (case xga_ParseError => first | k_is | kernel_rfl)
    (case xgg_ParseError => first | k_is | kernel_rfl)
    (case xno_ParseError => first | k_is | kernel_rfl)
    (case xi_ParseError => first | k_is | kernel_rfl)
    (case xt_ParseError => first | k_is | kernel_rfl)
    (case xk_ParseError => first | k_is | kernel_rfl)
    (case xe_ParseError => first | k_is | kernel_rfl)
    (case xy_ParseError => first | k_is | kernel_rfl)
    (case xh_ParseError => first | k_is | kernel_rfl)
    (case xl_ParseError => first | k_is | kernel_rfl)
    (case xcd_ParseError => first | k_is | kernel_rfl)
    (case n_TooMany => first | k_is | kernel_rfl)
    (case xc_TooMany => first | k_is | kernel_rfl)
    (case xb_TooMany => decide)
    (case xsa_TooMany => first | k_is | kernel_rfl)
    (case xga_TooMany => first | k_is | kernel_rfl)
    (case xgg_TooMany => first | k_is | kernel_rfl)
    (case xno_TooMany => first | k_is | kernel_rfl)
    (case xi_TooMany => first | k_is | kernel_rfl)
    (case xt_TooMany => first | k_is | kernel_rfl)
    (case xk_TooMany => first | k_is | kernel_rfl)
    (case xe_TooMany => first | k_is | kernel_rfl)
    (case xy_TooMany => first | k_is | kernel_rfl)
    (case xh_TooMany => first | k_is | kernel_rfl)
    (case xl_TooMany => first | k_is | kernel_rfl)
    (case xcd_TooMany => first | k_is | kernel_rfl)
    (case hx => first | k_is | kernel_rfl)
    (case a0 => first | k_is | kernel_rfl)
    (case l0 => first | k_is | kernel_rfl)
    (case c0 => first | k_is | kernel_rfl)
    (case k0 => first | k_is | kernel_rfl)
    (case a1 => first | k_is | kernel_rfl)
    (case i1 => first | k_is | kernel_rfl)
    (case mi_Row => first | k_is | kernel_rfl)
    (case mk_Row => first | k_is | kernel_rfl)
    (case l1 => first | k_is | kernel_rfl)
    (case c1 => first | k_is | kernel_rfl)
    (case k1 => first | k_is | kernel_rfl)
    (case a2 => first | k_is | kernel_rfl)
    (case l2 => first | k_is | kernel_rfl)
    (case c2 => first | k_is | kernel_rfl)
    (case k2 => first | k_is | kernel_rfl)
    (case a3 => first | k_is | kernel_rfl)
    (case l3 => first | k_is | kernel_rfl)
    (case c3 => first | k_is | kernel_rfl)
    (case k3 => first | k_is | kernel_rfl)
    (case a4 => first | k_is | kernel_rfl)
    (case l4 => first | k_is | kernel_rfl)
    (case c4 => first | k_is | kernel_rfl)
    (case k4 => first | k_is | kernel_rfl)
    (case a5 => first | k_is | kernel_rfl)
    (case i5 => first | k_is | kernel_rfl)
    (case mi_Store => first | k_is | kernel_rfl)
    (case mk_Store => first | k_is | kernel_rfl)
    (case l5 => first | k_is | kernel_rfl)
    (case c5 => first | k_is | kernel_rfl)
    (case k5 => first | k_is | kernel_rfl)
    (case a6 => first | k_is | kernel_rfl)
    (case l6 => first | k_is | kernel_rfl)
    (case c6 => first | k_is | kernel_rfl)
    (case k6 => first | k_is | kernel_rfl)
    (case a7 => first | k_is | kernel_rfl)
    (case l7 => first | k_is | kernel_rfl)
    (case c7 => first | k_is | kernel_rfl)
    (case k7 => first | k_is | kernel_rfl)
    (case a8 => first | k_is | kernel_rfl)
    (case i8 => first | k_is | kernel_rfl)
    (case l8 => first | k_is | kernel_rfl)
    (case c8 => first | k_is | kernel_rfl)
    (case k8 => first | k_is | kernel_rfl)
    (case a9 => first | k_is | kernel_rfl)
    (case pg9 => first | k_is | kernel_rfl)
    (case pt9 => first | k_is | kernel_rfl)
    (case pc9 => first | k_is | kernel_rfl)
    (case l9 => first | k_is | kernel_rfl)
    (case c9 => first | k_is | kernel_rfl)
    (case k9 => first | k_is | kernel_rfl)
    (case a10 => first | k_is | kernel_rfl)
    (case l10 => first | k_is | kernel_rfl)
    (case c10 => first | k_is | kernel_rfl)
    (case k10 => first | k_is | kernel_rfl)
    (case a11 => first | k_is | kernel_rfl)
    (case l11 => first | k_is | kernel_rfl)
    (case c11 => first | k_is | kernel_rfl)
    (case k11 => first | k_is | kernel_rfl)
    (case a12 => first | k_is | kernel_rfl)
    (case l12 => first | k_is | kernel_rfl)
    (case c12 => first | k_is | kernel_rfl)
    (case k12 => first | k_is | kernel_rfl)
    (case a13 => first | k_is | kernel_rfl)
    (case i13 => first | k_is | kernel_rfl)
    (case l13 => first | k_is | kernel_rfl)
    (case c13 => first | k_is | kernel_rfl)
    (case k13 => first | k_is | kernel_rfl)
    (case a14 => first | k_is | kernel_rfl)
    (case i14 => first | k_is | kernel_rfl)
    (case l14 => first | k_is | kernel_rfl)
    (case c14 => first | k_is | kernel_rfl)
    (case k14 => first | k_is | kernel_rfl)
    (case a15 => first | k_is | kernel_rfl)
    (case l15 => first | k_is | kernel_rfl)
    (case c15 => first | k_is | kernel_rfl)
    (case k15 => first | k_is | kernel_rfl)
    (case a16 => first | k_is | kernel_rfl)
    (case l16 => first | k_is | kernel_rfl)
    (case c16 => first | k_is | kernel_rfl)
    (case k16 => first | k_is | kernel_rfl)
    (case a17 => first | k_is | kernel_rfl)
    (case i17 => first | k_is | kernel_rfl)
    (case l17 => first | k_is | kernel_rfl)
    (case c17 => first | k_is | kernel_rfl)
    (case k17 => first | k_is | kernel_rfl)
    (case a18 => first | k_is | kernel_rfl)
    (case i18 => first | k_is | kernel_rfl)
    (case l18 => first | k_is | kernel_rfl)
    (case c18 => first | k_is | kernel_rfl)
    (case k18 => first | k_is | kernel_rfl)
    (case a19 => first | k_is | kernel_rfl)
    (case i19 => first | k_is | kernel_rfl)
    (case l19 => first | k_is | kernel_rfl)
    (case c19 => first | k_is | kernel_rfl)
    (case k19 => first | k_is | kernel_rfl)
    (case a20 => first | k_is | kernel_rfl)
    (case i20 => first | k_is | kernel_rfl)
    (case l20 => first | k_is | kernel_rfl)
    (case c20 => first | k_is | kernel_rfl)
    (case k20 => first | k_is | kernel_rfl)
    (case a21 => first | k_is | kernel_rfl)
    (case l21 => first | k_is | kernel_rfl)
    (case c21 => first | k_is | kernel_rfl)
    (case k21 => first | k_is | kernel_rfl)
    (case a22 => first | k_is | kernel_rfl)
    (case i22 => first | k_is | kernel_rfl)
    (case l22 => first | k_is | kernel_rfl)
    (case c22 => first | k_is | kernel_rfl)
    (case k22 => first | k_is | kernel_rfl)
    (case a23 => first | k_is | kernel_rfl)
    (case pg23 => first | k_is | kernel_rfl)
    (case pt23 => first | k_is | kernel_rfl)
    (case pc23 => first | k_is | kernel_rfl)
    (case l23 => first | k_is | kernel_rfl)
    (case c23 => first | k_is | kernel_rfl)
    (case k23 => first | k_is | kernel_rfl)
    (case a24 => first | k_is | kernel_rfl)
    (case l24 => first | k_is | kernel_rfl)
    (case c24 => first | k_is | kernel_rfl)
    (case k24 => first | k_is | kernel_rfl)
    (case a25 => first | k_is | kernel_rfl)
    (case l25 => first | k_is | kernel_rfl)
    (case c25 => first | k_is | kernel_rfl)
    (case k25 => first | k_is | kernel_rfl)
    (case a26 => first | k_is | kernel_rfl)
    (case l26 => first | k_is | kernel_rfl)
    (case c26 => first | k_is | kernel_rfl)
    (case k26 => first | k_is | kernel_rfl)
    (case a27 => first | k_is | kernel_rfl)
    (case l27 => first | k_is | kernel_rfl)
    (case c27 => first | k_is | kernel_rfl)
    (case k27 => first | k_is | kernel_rfl)
    (case a28 => first | k_is | kernel_rfl)
    (case l28 => first | k_is | kernel_rfl)
    (case c28 => first | k_is | kernel_rfl)
    (case k28 => first | k_is | kernel_rfl)
    (case a29 => first | k_is | kernel_rfl)
    (case l29 => first | k_is | kernel_rfl)
    (case c29 => first | k_is | kernel_rfl)
    (case k29 => first | k_is | kernel_rfl)
    (case tc29 => first | k_is | kernel_rfl)
    (case tp29 => exact rfl)
    (case tn29 => first | k_is | kernel_rfl)
    (case tr29 => decide +kernel)
    (case a30 => first | k_is | kernel_rfl)
    (case l30 => first | k_is | kernel_rfl)
    (case c30 => first | k_is | kernel_rfl)
    (case k30 => first | k_is | kernel_rfl)
    (case a31 => first | k_is | kernel_rfl)
    (case l31 => first | k_is | kernel_rfl)
    (case c31 => first | k_is | kernel_rfl)
    (case k31 => first | k_is | kernel_rfl)
    (case tc31 => first | k_is | kernel_rfl)
    (case tp31 => exact rfl)
    (case tn31 => first | k_is | kernel_rfl)
    (case tr31 => decide +kernel)
    (case a32 => first | k_is | kernel_rfl)
    (case l32 => first | k_is | kernel_rfl)
    (case c32 => first | k_is | kernel_rfl)
    (case k32 => first | k_is | kernel_rfl)
    (case tc32 => first | k_is | kernel_rfl)
    (case tp32 => exact rfl)
    (case tn32 => first | k_is | kernel_rfl)
    (case tr32 => decide +kernel)
    (case z_abs => first | k_is | kernel_rfl)
    (case z_all => first | k_is | kernel_rfl)
    (case z_bool => first | k_is | kernel_rfl)
    (case z_int => first | k_is | kernel_rfl)
    (case z_isinstance => first | k_is | kernel_rfl)
    (case z_len => first | k_is | kernel_rfl)
    (case z_max => first | k_is | kernel_rfl)
    (case z_min => first | k_is | kernel_rfl)
    (case z_range => first | k_is | kernel_rfl)
    (case z_repr => first | k_is | kernel_rfl)
    (case z_sum => first | k_is | kernel_rfl)
    (case z_tuple => first | k_is | kernel_rfl)
    (case g_LIMIT => first | k_is | kernel_rfl)
    (case g_MAX_RUNS => first | k_is | kernel_rfl)
    (case hND => decide)
#print axioms PySem.Challenge.cw_chainpacks_k18_errors_of_stores_holds
