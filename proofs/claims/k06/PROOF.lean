import PyProof.Rows.All
import Wide.All
import OpenK.AllK
import Wide.FinOn
import HandS.ForSpec
import HandS.ForMost
import HandS.HeadHook1
import HandS.Flow
import HandS.Style
import HandS.TupAny
import HandS.Conv
import HandS.Deep
import HandS.IsInst
import HandS.Text
import HandS.Zip
import KE.LtData
import KE.DataCmp
import KE.DataMinMax
import HandS.WordsDict
import HandS.HeadHook2
import PyProof.Rows.SetFrom
import HandS.Head0
import HandS.Head1
import HandS.Head2
import HandS.HeadEnd
import HandS.HeadWalk
import PyProof.TupleOfStr
import HandS.TupMul
import HandS.SetFor
import KE.DataFind
import HandS.ExcOwn
import HandS.ExcIs
import HandS.HotCalls
import HandS.List
import KE.KExcIs
import HandS.Iter
import KE.GoesEnum
import HandS.NoneIn
import HandS.SortRule
import PyProof.Rows.SortKeyStr
import PyProof.Rows.StrMeet
import HandS.Dict
import PyProof.EqKinds
import HandS.ListItems
import HandS.More
import HandS.HeadHook3
import PyProof.TupleOfSeq
import PyProof.Rows.SortShellAny
import HandS.Rev
import KE.GoesZip
import HandS.RaiseMore
import KE.KIntText
import HandS.ExcInit
import HandS.ExcField
import OpenK.KCls
import HandS.HeadNt
import KE.IntTextLaws
import PySem.Challenge.RW_neversoon_k06_texts_of_no_rules
set_option Elab.async false
set_option linter.all false
set_option maxRecDepth 100000
set_option maxHeartbeats 4000000
namespace NV
open PySem PySem.Spec PyProof.Rows L2
abbrev St := List (Option V)

inductive D where
  | non | bl (b : Bool) | int (i : Int) | str (x : Str)
  | tup (xs : List D) | lst (xs : List D) | dct (kvs : List (Key × D))
  | exn (c : Str) (fs : List D)
  /-- a dict whose keys are tuples -/
  | dt (kvs : List (List Key × D))
  /-- a house: its fields, what it told passed -/
  | obj (fs : List D) (td : List (List Key × D))
  /-- the script -/
  | scr (xs : List Int)
  deriving Inhabited

/-- a text that may stand in a list, a tuple, a dict -/
def StrG (x : Str) : Prop := x.length ≤ sizeLine ∧ PySem.PyData.strOk x = true

/-- the script: it is known to the object, or stands in the written part -/
def SqS (K : PySem.W.Frag) (H : Hp) (a : Addr) (xs : List Int) : Prop :=
  (∃ o, H a = some (.frz o (.lst (xs.map V.int)))) ∨ ∃ (o : Obj) (its : Array Value) (n : Nat), K.lookup a = some o ∧ o.cls = .type "list" ∧ o.dict = none ∧ o.data = .seq its n ∧ its.size ≤ sizeLine ∧ Vals (xs.map V.int) its.toList

/-- at a: an exception of the class at C, without a dict -/
def exoT (a C : Addr) : HO := .ext fun h => ∃ oe vs, h.get? a = some oe ∧ Zc (.ref C) none oe ∧ oe.data = .fields vs
/-- .. with its dict at dx -/
def exoD (a C dx : Addr) : HO := .ext fun h => ∃ oe vs, h.get? a = some oe ∧ Zc (.ref C) (some dx) oe ∧ oe.data = .fields vs
/-- a house's attributes, its dict told at b -/
def hFs : List V → Addr → List (Str × V)
  | [v0, v1, v2, v3, v4, v5, v6, v7, v8, v9], b => [("bands", v0), ("moment", v1), ("entries", v2), ("ruled", v3), ("number", v4), ("kept", v5), ("coming", v6), ("queue", v7), ("farthest", v8), ("told", .ref b), ("lost", v9)]
  | _, _ => []
mutual
inductive Rp (K : PySem.W.Frag) (M : Addr → Prop) (H : Hp) : D → V → Prop
  | non : Rp K M H .non .non
  | bl (b : Bool) : Rp K M H (.bl b) (.bl b)
  | int (i : Int) : Rp K M H (.int i) (.int i)
  | str {x : Str} : StrG x → Rp K M H (.str x) (.str x)
  | tup {a : Addr} {vs : List V} {ds : List D} : ds.length ≤ sizeLine → SqT K H a vs → RpL K M H ds vs → Rp K M H (.tup ds) (.ref a)
  | lst {a : Addr} {vs : List V} {ds : List D} : ds.length ≤ sizeLine → ¬ M a → H a = some (.lst vs) → RpL K M H ds vs → Rp K M H (.lst ds) (.ref a)
  | dct {a : Addr} {ws : List (Key × V)} {kvs : List (Key × D)} : kvs.length ≤ sizeLine → ¬ M a → H a = some (.dK ws) → RpK K M H kvs ws → Rp K M H (.dct kvs) (.ref a)
  | scr {a : Addr} {xs : List Int} : xs.length ≤ sizeLine → SqS K H a xs → Rp K M H (.scr xs) (.ref a)
  | exn {a : Addr} {c : Str} : ¬ M a → H a = some (exoT a (He.ga K c)) → Rp K M H (.exn c []) (.ref a)
  | exnR {a dx : Addr} {c : Str} {d : D} {v : V} : ¬ M a → H a = some (exoD a (He.ga K c) dx) → ¬ M dx → H dx = some (.xd [("row", v)]) → Rp K M H d v → Rp K M H (.exn c [d]) (.ref a)
  | dt {a : Addr} {ws : List (List Key × V)} {kvs : List (List Key × D)} : kvs.length ≤ sizeLine → ¬ M a → H a = some (.dT ws) → RpT K M H kvs ws → Rp K M H (.dt kvs) (.ref a)
  | obj {a dx b : Addr} {vs : List V} {ds : List D} {ws : List (List Key × V)} {kvs : List (List Key × D)} : ¬ M a → H a = some (.ins (He.ga K "House") dx (hFs vs b)) → ds.length = 10 → RpL K M H ds vs → ¬ M b → kvs.length ≤ sizeLine → H b = some (.dT ws) → RpT K M H kvs ws → Rp K M H (.obj ds kvs) (.ref a)
inductive RpL (K : PySem.W.Frag) (M : Addr → Prop) (H : Hp) : List D → List V → Prop
  | nil : RpL K M H [] []
  | cons {d : D} {ds : List D} {v : V} {vs : List V} : Rp K M H d v → RpL K M H ds vs → RpL K M H (d :: ds) (v :: vs)
inductive RpK (K : PySem.W.Frag) (M : Addr → Prop) (H : Hp) : List (Key × D) → List (Key × V) → Prop
  | nil : RpK K M H [] []
  | cons {k : Key} {d : D} {ds : List (Key × D)} {v : V} {vs : List (Key × V)} : Rp K M H d v → RpK K M H ds vs → RpK K M H ((k, d) :: ds) ((k, v) :: vs)
inductive RpT (K : PySem.W.Frag) (M : Addr → Prop) (H : Hp) : List (List Key × D) → List (List Key × V) → Prop
  | nil : RpT K M H [] []
  | cons {k : List Key} {d : D} {ds : List (List Key × D)} {v : V} {vs : List (List Key × V)} : Rp K M H d v → RpT K M H ds vs → RpT K M H ((k, d) :: ds) ((k, v) :: vs)
end
/-- what never changes -/
def Imm : HO → Prop
  | .tup _ => True
  | .frz _ _ => True
  | _ => False

/-- from one heap to a later one: what is tracked and not owned is as it was, and is not owned later -/
def Ext (M : Addr → Prop) (H : Hp) (M' : Addr → Prop) (H' : Hp) : Prop :=
  ∀ b o, H b = some o → (¬ M b ∨ Imm o) → H' b = some o ∧ (¬ M b → ¬ M' b)

theorem Ext.trans {M M1 M2 : Addr → Prop} {H H1 H2 : Hp} (a : Ext M H M1 H1) (b : Ext M1 H1 M2 H2) : Ext M H M2 H2 := fun c o e h => by
  obtain ⟨e1, n1⟩ := a c o e h
  rcases h with h | h
  · obtain ⟨e2, n2⟩ := b c o e1 (.inl (n1 h))
    exact ⟨e2, fun n => n2 (n1 n)⟩
  · obtain ⟨e2, n2⟩ := b c o e1 (.inr h)
    exact ⟨e2, fun n => n2 (n1 n)⟩

theorem Ext.sqT {K : PySem.W.Frag} {M M' : Addr → Prop} {H H' : Hp} (x : Ext M H M' H') {a : Addr} {xs : List V} (h : SqT K H a xs) : SqT K H' a xs := by
  rcases h with (h | ⟨o, h⟩) | h
  · exact .inl (.inl (x _ _ h (.inr trivial)).1)
  · exact .inl (.inr ⟨o, (x _ _ h (.inr trivial)).1⟩)
  · exact .inr h
theorem Ext.sqS {K : PySem.W.Frag} {M M' : Addr → Prop} {H H' : Hp} (x : Ext M H M' H') {a : Addr} {xs : List Int} (h : SqS K H a xs) : SqS K H' a xs := by
  rcases h with ⟨o, h⟩ | h
  · exact .inl ⟨o, (x _ _ h (.inr trivial)).1⟩
  · exact .inr h
section
variable {K : PySem.W.Frag} {M M' : Addr → Prop} {H H' : Hp}
mutual
theorem Rp.ext (x : Ext M H M' H') : ∀ {d : D} {v : V}, Rp K M H d v → Rp K M' H' d v
  | .non, _, h => by cases h; exact .non
  | .bl b, _, h => by cases h; exact .bl b
  | .int i, _, h => by cases h; exact .int i
  | .str z, _, h => by
    cases h with
    | str g => exact .str g
  | .tup ds, _, h => by
    cases h with
    | tup l h1 h2 => exact .tup l (x.sqT h1) (RpL.ext x h2)
  | .lst ds, _, h => by
    cases h with
    | lst l n h1 h2 => exact .lst l ((x _ _ h1 (.inl n)).2 n) (x _ _ h1 (.inl n)).1 (RpL.ext x h2)
  | .dct kvs, _, h => by
    cases h with
    | dct l n h1 h2 => exact .dct l ((x _ _ h1 (.inl n)).2 n) (x _ _ h1 (.inl n)).1 (RpK.ext x h2)
  | .exn _ [], _, h => by
    cases h with
    | exn n h1 => exact .exn ((x _ _ h1 (.inl n)).2 n) (x _ _ h1 (.inl n)).1
  | .exn _ [d], _, h => by
    cases h with
    | exnR n h1 n2 h2 h3 => exact .exnR ((x _ _ h1 (.inl n)).2 n) (x _ _ h1 (.inl n)).1 ((x _ _ h2 (.inl n2)).2 n2) (x _ _ h2 (.inl n2)).1 (Rp.ext x h3)
  | .exn _ (_ :: _ :: _), _, h => by cases h
  | .dt kvs, _, h => by
    cases h with
    | dt l n h1 h2 => exact .dt l ((x _ _ h1 (.inl n)).2 n) (x _ _ h1 (.inl n)).1 (RpT.ext x h2)
  | .obj ds kvs, _, h => by
    cases h with
    | obj n h1 l h2 n2 l2 h3 h4 => exact .obj ((x _ _ h1 (.inl n)).2 n) (x _ _ h1 (.inl n)).1 l (RpL.ext x h2) ((x _ _ h3 (.inl n2)).2 n2) l2 (x _ _ h3 (.inl n2)).1 (RpT.ext x h4)
  | .scr xs, _, h => by
    cases h with
    | scr l h1 => exact .scr l (x.sqS h1)
theorem RpL.ext (x : Ext M H M' H') : ∀ {ds : List D} {vs : List V}, RpL K M H ds vs → RpL K M' H' ds vs
  | [], _, h => by cases h; exact .nil
  | d :: ds, _, h => by
    cases h with
    | cons h1 h2 => exact .cons (Rp.ext x h1) (RpL.ext x h2)
theorem RpK.ext (x : Ext M H M' H') : ∀ {ds : List (Key × D)} {vs : List (Key × V)}, RpK K M H ds vs → RpK K M' H' ds vs
  | [], _, h => by cases h; exact .nil
  | (k, d) :: ds, _, h => by
    cases h with
    | cons h1 h2 => exact .cons (Rp.ext x h1) (RpK.ext x h2)
theorem RpT.ext (x : Ext M H M' H') : ∀ {ds : List (List Key × D)} {vs : List (List Key × V)}, RpT K M H ds vs → RpT K M' H' ds vs
  | [], _, h => by cases h; exact .nil
  | (k, d) :: ds, _, h => by
    cases h with
    | cons h1 h2 => exact .cons (Rp.ext x h1) (RpT.ext x h2)
end
/-- fewer owned -/
theorem Ext.sub (h : ∀ b, M' b → M b) : Ext M H M' H := fun b o e _ => ⟨e, fun n z => n (h b z)⟩
/-- a new object -/
theorem Ext.new {p : Addr} {o : HO} (hp : H p = none) : Ext M H M (upd H p o) := fun b u e _ => ⟨by rw [upd_ne (ne_of_none e hp)]; exact e, fun n => n⟩
theorem RpL.length : ∀ {ds : List D} {vs : List V}, RpL K M H ds vs → ds.length = vs.length
  | [], _, h => by cases h; rfl
  | d :: ds, _, h => by
    cases h with
    | cons h1 h2 => simp [RpL.length h2]
theorem RpK.length : ∀ {ds : List (Key × D)} {vs : List (Key × V)}, RpK K M H ds vs → ds.length = vs.length
  | [], _, h => by cases h; rfl
  | d :: ds, _, h => by
    cases h with
    | cons h1 h2 => simp [RpK.length h2]
theorem RpT.length : ∀ {ds : List (List Key × D)} {vs : List (List Key × V)}, RpT K M H ds vs → ds.length = vs.length
  | [], _, h => by cases h; rfl
  | d :: ds, _, h => by
    cases h with
    | cons h1 h2 => simp [RpT.length h2]
theorem RpL.drop : ∀ {ds : List D} {vs : List V} (n : Nat), RpL K M H ds vs → RpL K M H (ds.drop n) (vs.drop n)
  | [], _, n, h => by cases h; simp; exact .nil
  | d :: ds, _, 0, h => by simpa using h
  | d :: ds, _, n + 1, h => by
    cases h with
    | cons h1 h2 => exact RpL.drop n h2
theorem RpL.set {d : D} {v : V} (r : Rp K M H d v) : ∀ {ds : List D} {vs : List V} (i : Nat), RpL K M H ds vs → RpL K M H (ds.set i d) (vs.set i v)
  | [], _, i, h => by cases h; exact .nil
  | x :: ds, _, 0, h => by
    cases h with
    | cons h1 h2 => exact .cons r h2
  | x :: ds, _, i + 1, h => by
    cases h with
    | cons h1 h2 => exact .cons h1 (RpL.set r i h2)
end

inductive Slot where
  /-- nothing is known -/
  | no
  /-- a value -/
  | v (d : D)
  /-- a mutable object of this def's own -/
  | o (d : D)
  /-- a mutable object that is a parameter -/
  | p (d : D)
  deriving Inhabited
abbrev Env := List Slot

/-- where a house's own dict stands -/
def toldOf : HO → Option Addr
  | .ins _ _ fs => (match fs.lookup ("told" : Str) with
    | some (.ref b) => some b
    | _ => none)
  | _ => none
/-- what belongs to the object at a: itself, a house's own dict -/
def Foot (H : Hp) (a c : Addr) : Prop := c = a ∨ ∃ o, H a = some o ∧ toldOf o = some c
theorem Foot.self {H : Hp} {a : Addr} : Foot H a a := .inl rfl
theorem Foot.of_eq {H H' : Hp} {a c : Addr} (e : H' a = H a) (h : Foot H' a c) : Foot H a c := h.imp id fun ⟨o, h1, h2⟩ => ⟨o, e ▸ h1, h2⟩
theorem Foot.plain {H : Hp} {a c : Addr} {o : HO} (e : H a = some o) (h : toldOf o = none) (f : Foot H a c) : c = a := f.elim id fun ⟨u, h1, h2⟩ => by
  rw [e] at h1; cases h1; rw [h] at h2; cases h2
theorem Foot.new {H : Hp} {a c : Addr} (e : H a = none) (f : Foot H a c) : c = a := f.elim id fun ⟨u, h1, h2⟩ => by rw [e] at h1; cases h1
theorem told_hFs {K : PySem.W.Frag} {M : Addr → Prop} {H : Hp} {C dx b : Addr} {ds : List D} {vs : List V} (l : ds.length = 10) (r : RpL K M H ds vs) : toldOf (.ins C dx (hFs vs b)) = some b := by
  have hl : vs.length = 10 := by rw [← r.length]; exact l
  match vs, hl with
  | [v0, v1, v2, v3, v4, v5, v6, v7, v8, v9], _ =>
    have e : (hFs [v0, v1, v2, v3, v4, v5, v6, v7, v8, v9] b).lookup ("told" : Str) = some (.ref b) := by
      show List.lookup ("told" : Str) [(("bands" : Str), v0), ("moment", v1), ("entries", v2), ("ruled", v3), ("number", v4), ("kept", v5), ("coming", v6), ("queue", v7), ("farthest", v8), ("told", .ref b), ("lost", v9)] = _
      have n1 : (("told" : Str) == "bands") = false := by decide +kernel
      have n2 : (("told" : Str) == "moment") = false := by decide +kernel
      have n3 : (("told" : Str) == "entries") = false := by decide +kernel
      have n4 : (("told" : Str) == "ruled") = false := by decide +kernel
      have n5 : (("told" : Str) == "number") = false := by decide +kernel
      have n6 : (("told" : Str) == "kept") = false := by decide +kernel
      have n7 : (("told" : Str) == "coming") = false := by decide +kernel
      have n8 : (("told" : Str) == "queue") = false := by decide +kernel
      have n9 : (("told" : Str) == "farthest") = false := by decide +kernel
      have y : (("told" : Str) == "told") = true := by decide +kernel
      simp only [List.lookup, n1, n2, n3, n4, n5, n6, n7, n8, n9, y]
    show (match (hFs [v0, v1, v2, v3, v4, v5, v6, v7, v8, v9] b).lookup ("told" : Str) with
      | some (.ref b) => some b
      | _ => none) = some b
    rw [e]

/-- the owned object at a holds d -/
def Ow (K : PySem.W.Frag) (M : Addr → Prop) (H : Hp) : D → Addr → Prop
  | .lst ds, a => M a ∧ ds.length ≤ sizeLine ∧ ∃ vs, H a = some (.lst vs) ∧ RpL K M H ds vs
  | .dct kvs, a => M a ∧ kvs.length ≤ sizeLine ∧ ∃ ws, H a = some (.dK ws) ∧ RpK K M H kvs ws
  | .dt kvs, a => M a ∧ kvs.length ≤ sizeLine ∧ ∃ ws, H a = some (.dT ws) ∧ RpT K M H kvs ws
  | .obj ds kvs, a => M a ∧ ds.length = 10 ∧ ∃ dx b vs ws, H a = some (.ins (He.ga K "House") dx (hFs vs b)) ∧ RpL K M H ds vs ∧ M b ∧ kvs.length ≤ sizeLine ∧ H b = some (.dT ws) ∧ RpT K M H kvs ws
  | _, _ => False
def isObj : D → Bool
  | .obj _ _ => true
  | _ => false

section
variable {K : PySem.W.Frag} {M M' : Addr → Prop} {H H' : Hp} {d : D} {a c : Addr}
theorem Ow.mem (h : Ow K M H d a) : M a := by
  cases d <;> first | exact h.1 | exact h.elim
theorem Ow.there (h : Ow K M H d a) : ∃ o, H a = some o ∧ ¬ Imm o := by
  cases d with
  | lst ds => obtain ⟨_, _, vs, e, _⟩ := h; exact ⟨_, e, fun z => z⟩
  | dct ds => obtain ⟨_, _, vs, e, _⟩ := h; exact ⟨_, e, fun z => z⟩
  | dt ds => obtain ⟨_, _, vs, e, _⟩ := h; exact ⟨_, e, fun z => z⟩
  | obj ds kvs => obtain ⟨_, _, _, _, _, _, e, _⟩ := h; exact ⟨_, e, fun z => z⟩
  | _ => exact h.elim
theorem Ow.plain (h : Ow K M H d a) (n : isObj d = false) (f : Foot H a c) : c = a := by
  cases d with
  | lst ds => obtain ⟨_, _, vs, e, _⟩ := h; exact f.plain e rfl
  | dct ds => obtain ⟨_, _, vs, e, _⟩ := h; exact f.plain e rfl
  | dt ds => obtain ⟨_, _, vs, e, _⟩ := h; exact f.plain e rfl
  | obj ds kvs => cases n
  | _ => exact h.elim
/-- all that belongs to it is owned, and may be written -/
theorem Ow.foot (h : Ow K M H d a) (f : Foot H a c) : M c ∧ ∃ o, H c = some o ∧ ¬ Imm o := by
  cases e : isObj d with
  | false =>
    rw [h.plain e f]
    exact ⟨h.mem, h.there⟩
  | true =>
    cases d with
    | obj ds kvs =>
      have w := h
      obtain ⟨m, l, dx, b, vs, ws, e1, r1, mb, l2, e2, r2⟩ := h
      rcases f with f | ⟨o, f1, f2⟩
      · rw [f]; exact ⟨m, w.there⟩
      · rw [e1] at f1
        cases f1
        rw [told_hFs l r1] at f2
        cases f2
        exact ⟨mb, _, e2, fun z => z⟩
    | _ => cases e
/-- the object itself is as it was, what it holds is not owned -/
theorem Ow.ext (x : Ext M H M' H') (hf : ∀ c, Foot H a c → M' c ∧ H' c = H c) (h : Ow K M H d a) : Ow K M' H' d a := by
  obtain ⟨hm, he⟩ := hf a .self
  cases d with
  | lst ds =>
    obtain ⟨_, l, vs, e, r⟩ := h
    exact ⟨hm, l, vs, by rw [he]; exact e, RpL.ext x r⟩
  | dct ds =>
    obtain ⟨_, l, vs, e, r⟩ := h
    exact ⟨hm, l, vs, by rw [he]; exact e, RpK.ext x r⟩
  | dt ds =>
    obtain ⟨_, l, vs, e, r⟩ := h
    exact ⟨hm, l, vs, by rw [he]; exact e, RpT.ext x r⟩
  | obj ds kvs =>
    obtain ⟨_, l, dx, b, vs, ws, e1, r1, mb, l2, e2, r2⟩ := h
    obtain ⟨hb1, hb2⟩ := hf b (.inr ⟨_, e1, told_hFs l r1⟩)
    exact ⟨hm, l, dx, b, vs, ws, by rw [he]; exact e1, RpL.ext x r1, hb1, l2, by rw [hb2]; exact e2, RpT.ext x r2⟩
  | _ => exact h.elim
end

/-- where a body begins: the owned ones, the heap, the parameters that are owned -/
structure Base where
  M : Addr → Prop
  H : Hp
  pa : Nat → Option Addr
  /-- what is being made meanwhile -/
  pr : List (Addr × HO) := []
  mt : ∀ b, M b → H b ≠ none
  /-- nothing belongs to two parameters, what does is tracked -/
  ap : ∀ i j a b c, i ≠ j → pa i = some a → pa j = some b → Foot H a c → Foot H b c → False
  pt : ∀ i a c, pa i = some a → Foot H a c → H c ≠ none
  pm : ∀ i a c, pa i = some a → Foot H a c → M c

def SlotOk (K : PySem.W.Frag) (B : Base) (M : Addr → Prop) (H : Hp) (i : Nat) : Slot → Option V → Prop
  | .no, _ => True
  | .v d, x => ∃ v, x = some v ∧ Rp K M H d v
  | .o d, x => ∃ a, x = some (.ref a) ∧ Ow K M H d a ∧ ∀ c, Foot H a c → B.H c = none
  | .p d, x => ∃ a, x = some (.ref a) ∧ Ow K M H d a ∧ B.pa i = some a ∧ ∀ c, Foot H a c → Foot B.H a c

def isOwn : Slot → Bool
  | .o _ => true
  | .p _ => true
  | _ => false

/-- no slot owns what stands at c -/
def Anon (H : Hp) (ρ : Env) (σ : St) (c : Addr) : Prop := ∀ (i : Nat) (s : Slot) (a : Addr), ρ[i]? = some s → isOwn s = true → σ[i]? = some (some (V.ref a)) → ¬ Foot H a c
structure Rep (K : PySem.W.Frag) (B : Base) (M : Addr → Prop) (H : Hp) (ρ : Env) (σ : St) : Prop where
  keep : ∀ b o, B.H b = some o → (∀ i a, B.pa i = some a → ¬ Foot B.H a b) → H b = some o
  old : ∀ b, B.H b ≠ none → H b ≠ none
  sub : ∀ b, B.M b → M b
  new : ∀ b, M b → B.M b ∨ B.H b = none
  trk : ∀ b, M b → H b ≠ none
  len : ρ.length = σ.length
  slot : ∀ (i : Nat) (s : Slot), ρ[i]? = some s → SlotOk K B M H i s (σ[i]?.join)
  apart : ∀ (i j : Nat) (s t : Slot) (a b c : Addr), i ≠ j → ρ[i]? = some s → ρ[j]? = some t → isOwn s = true → isOwn t = true → σ[i]? = some (some (V.ref a)) → σ[j]? = some (some (V.ref b)) → Foot H a c → Foot H b c → False
  pr : ∀ p ∈ B.pr, H p.1 = some p.2 ∧ M p.1 ∧ Anon H ρ σ p.1 ∧ B.H p.1 = none

theorem SlotOk.ext {K : PySem.W.Frag} {B : Base} {M M' : Addr → Prop} {H H' : Hp} {i : Nat} {s : Slot} {x : Option V} (e : Ext M H M' H')
    (ho : ∀ a c, isOwn s = true → x = some (.ref a) → Foot H a c → M c → M' c ∧ H' c = H c) (h : SlotOk K B M H i s x) : SlotOk K B M' H' i s x := by
  cases s with
  | no => trivial
  | v d => obtain ⟨v, e1, r⟩ := h; exact ⟨v, e1, r.ext e⟩
  | o d =>
    obtain ⟨a, e1, r, n⟩ := h
    have q : ∀ c, Foot H a c → M' c ∧ H' c = H c := fun c f => ho a c rfl e1 f (r.foot f).1
    exact ⟨a, e1, r.ext e q, fun c f => n c (f.of_eq (q a .self).2)⟩
  | p d =>
    obtain ⟨a, e1, r, n, n2⟩ := h
    have q : ∀ c, Foot H a c → M' c ∧ H' c = H c := fun c f => ho a c rfl e1 f (r.foot f).1
    exact ⟨a, e1, r.ext e q, n, fun c f => n2 c (f.of_eq (q a .self).2)⟩
theorem SlotOk.own {K : PySem.W.Frag} {B : Base} {M : Addr → Prop} {H : Hp} {i : Nat} {s : Slot} {x : Option V} (h : SlotOk K B M H i s x) (hs : isOwn s = true) :
    ∃ a d, x = some (.ref a) ∧ Ow K M H d a ∧ ((s = .o d ∧ ∀ c, Foot H a c → B.H c = none) ∨ (s = .p d ∧ B.pa i = some a ∧ ∀ c, Foot H a c → Foot B.H a c)) := by
  cases s with
  | no => cases hs
  | v d => cases hs
  | o d => obtain ⟨a, e1, r, n⟩ := h; exact ⟨a, d, e1, r, .inl ⟨rfl, n⟩⟩
  | p d => obtain ⟨a, e1, r, n⟩ := h; exact ⟨a, d, e1, r, .inr ⟨rfl, n⟩⟩
theorem join_of {σ : St} {i : Nat} {v : V} (h : σ[i]?.join = some v) : σ[i]? = some (some v) := by
  cases e : σ[i]? with
  | none => rw [e] at h; cases h
  | some x => rw [e] at h; cases x with
    | none => cases h
    | some y => cases h; rfl
theorem of_join {σ : St} {i : Nat} {v : V} (h : σ[i]? = some (some v)) : σ[i]?.join = some v := by rw [h]; rfl

section
variable {K : PySem.W.Frag} {B : Base} {M M' : Addr → Prop} {H H' : Hp} {ρ ρ' : Env} {σ σ' : St}
/-- what stands in an owned slot -/
theorem Rep.ownAt (r : Rep K B M H ρ σ) {i : Nat} {s : Slot} {a : Addr} (hi : ρ[i]? = some s) (ho : isOwn s = true) (hv : σ[i]? = some (some (V.ref a))) :
    ∃ d, Ow K M H d a ∧ ((s = .o d ∧ ∀ c, Foot H a c → B.H c = none) ∨ (s = .p d ∧ B.pa i = some a ∧ ∀ c, Foot H a c → Foot B.H a c)) := by
  obtain ⟨a', d, e1, w, k⟩ := (r.slot i s hi).own ho
  rw [of_join hv] at e1
  cases e1
  exact ⟨d, w, k⟩
/-- the names stay, the heap changes -/
theorem Rep.change (r : Rep K B M H ρ σ) (hk : ∀ b o, B.H b = some o → (∀ i a, B.pa i = some a → ¬ Foot B.H a b) → H b = some o → H' b = some o) (ho : ∀ b, H b ≠ none → H' b ≠ none)
    (hm : ∀ b, M b → M' b) (hn : ∀ b, M' b → M b ∨ H b = none) (ht : ∀ b, M' b → H' b ≠ none) (hl : ρ'.length = ρ.length) (hp : ∀ p ∈ B.pr, H p.1 = some p.2 → H' p.1 = some p.2)
    (hs : ∀ (i : Nat) (s' : Slot), ρ'[i]? = some s' → SlotOk K B M' H' i s' (σ[i]?.join) ∧ ∃ s, ρ[i]? = some s ∧ isOwn s' = isOwn s)
    (hf : ∀ (i : Nat) (s : Slot) (a c : Addr), ρ[i]? = some s → isOwn s = true → σ[i]? = some (some (V.ref a)) → Foot H' a c → Foot H a c) : Rep K B M' H' ρ' σ where
  keep := fun b o h1 h2 => hk b o h1 h2 (r.keep b o h1 h2)
  old := fun b h => ho b (r.old b h)
  sub := fun b h => hm b (r.sub b h)
  new := fun b h => (hn b h).elim (r.new b) fun n => by
    cases q : B.H b with
    | none => exact .inr rfl
    | some o => exact absurd n (r.old b (by rw [q]; simp))
  trk := ht
  len := hl.trans r.len
  slot := fun i s h => (hs i s h).1
  apart := fun i j s t a b c ne h1 h2 o1 o2 v1 v2 f1 f2 => by
    obtain ⟨_, s0, e1, q1⟩ := hs i s h1
    obtain ⟨_, t0, e2, q2⟩ := hs j t h2
    exact r.apart i j s0 t0 a b c ne e1 e2 (q1 ▸ o1) (q2 ▸ o2) v1 v2 (hf i s0 a c e1 (q1 ▸ o1) v1 f1) (hf j t0 b c e2 (q2 ▸ o2) v2 f2)
  pr := fun p hm2 => by
    obtain ⟨h1, h2, h3, h4⟩ := r.pr p hm2
    refine ⟨hp p hm2 h1, hm _ h2, fun i s a hi ho hv f => ?_, h4⟩
    obtain ⟨_, s0, e1, q1⟩ := hs i s hi
    exact h3 i s0 a e1 (q1 ▸ ho) hv (hf i s0 a _ e1 (q1 ▸ ho) hv f)
/-- the same kind of slot, another content -/
def reSlot (s : Slot) (d' : D) : Slot := match s with
  | .p _ => .p d'
  | _ => .o d'
theorem set_cases {α : Type} {l : List α} {i j : Nat} {x y : α} (h : (l.set i x)[j]? = some y) : (j = i ∧ x = y ∧ i < l.length) ∨ (j ≠ i ∧ l[j]? = some y) := by
  by_cases e : j = i
  · subst e
    by_cases hlt : j < l.length
    · rw [List.getElem?_set_self hlt] at h
      cases h
      exact .inl ⟨rfl, rfl, hlt⟩
    · rw [List.getElem?_eq_none (by simpa using hlt)] at h; cases h
  · rw [List.getElem?_set_ne (Ne.symm e)] at h
    exact .inr ⟨e, h⟩
/-- a name is stored -/
theorem Rep.setV (r : Rep K B M H ρ σ) (i : Nat) {d : D} {v : V} (h : Rp K M H d v) : Rep K B M H (ρ.set i (.v d)) (σ.set i (some v)) where
  keep := r.keep
  old := r.old
  sub := r.sub
  new := r.new
  trk := r.trk
  len := by simp [r.len]
  slot := fun j s hj => by
    rcases set_cases hj with ⟨rfl, rfl, hlt⟩ | ⟨e, hj⟩
    · rw [List.getElem?_set_self (r.len ▸ hlt)]
      exact ⟨v, rfl, h⟩
    · rw [List.getElem?_set_ne (Ne.symm e)]
      exact r.slot j s hj
  apart := fun j k s t a b c ne h1 h2 o1 o2 v1 v2 => by
    rcases set_cases h1 with ⟨_, rfl, _⟩ | ⟨e, h1⟩
    · cases o1
    · rcases set_cases h2 with ⟨_, rfl, _⟩ | ⟨e', h2⟩
      · cases o2
      · rw [List.getElem?_set_ne (Ne.symm e)] at v1
        rw [List.getElem?_set_ne (Ne.symm e')] at v2
        exact r.apart j k s t a b c ne h1 h2 o1 o2 v1 v2
  pr := fun p hp => by
    obtain ⟨h1, h2, h3, h4⟩ := r.pr p hp
    refine ⟨h1, h2, fun j s a hj ho hv => ?_, h4⟩
    rcases set_cases hj with ⟨_, rfl, _⟩ | ⟨e, hj⟩
    · cases ho
    · rw [List.getElem?_set_ne (Ne.symm e)] at hv
      exact h3 j s a hj ho hv
/-- forgetting a slot -/
theorem Rep.setNo (r : Rep K B M H ρ σ) (i : Nat) (x : Option V) : Rep K B M H (ρ.set i .no) (σ.set i x) where
  keep := r.keep
  old := r.old
  sub := r.sub
  new := r.new
  trk := r.trk
  len := by simp [r.len]
  slot := fun j s hj => by
    rcases set_cases hj with ⟨rfl, rfl, hlt⟩ | ⟨e, hj⟩
    · trivial
    · rw [List.getElem?_set_ne (Ne.symm e)]
      exact r.slot j s hj
  apart := fun j k s t a b c ne h1 h2 o1 o2 v1 v2 => by
    rcases set_cases h1 with ⟨_, rfl, _⟩ | ⟨e, h1⟩
    · cases o1
    · rcases set_cases h2 with ⟨_, rfl, _⟩ | ⟨e', h2⟩
      · cases o2
      · rw [List.getElem?_set_ne (Ne.symm e)] at v1
        rw [List.getElem?_set_ne (Ne.symm e')] at v2
        exact r.apart j k s t a b c ne h1 h2 o1 o2 v1 v2
  pr := fun p hp => by
    obtain ⟨h1, h2, h3, h4⟩ := r.pr p hp
    refine ⟨h1, h2, fun j s a hj ho hv => ?_, h4⟩
    rcases set_cases hj with ⟨_, rfl, _⟩ | ⟨e, hj⟩
    · cases ho
    · rw [List.getElem?_set_ne (Ne.symm e)] at hv
      exact h3 j s a hj ho hv
/-- what is owned by no slot and was made here is owned no more -/
theorem Rep.drop (r : Rep K B M H ρ σ) {a : Addr} (hb : ∀ c, Foot H a c → B.H c = none) (an : ∀ c, Foot H a c → Anon H ρ σ c) (np : ∀ c, Foot H a c → ∀ p ∈ B.pr, p.1 ≠ c) : Rep K B (fun b => M b ∧ ¬ Foot H a b) H ρ σ where
  keep := r.keep
  old := r.old
  sub := fun b h => ⟨r.sub b h, fun e => B.mt b h (hb b e)⟩
  new := fun b h => r.new b h.1
  trk := fun b h => r.trk b h.1
  len := r.len
  slot := fun i s h => (r.slot i s h).ext (Ext.sub fun _ z => z.1) fun b c o e f m => ⟨⟨m, fun z => an c z i s b h o (join_of e) f⟩, rfl⟩
  apart := r.apart
  pr := fun p hp => ⟨(r.pr p hp).1, ⟨(r.pr p hp).2.1, fun f => np _ f p hp rfl⟩, (r.pr p hp).2.2⟩
/-- what is owned is a value, where it is owned no more -/
theorem Ow.rp {d : D} {a : Addr} (w : Ow K M H d a) : Rp K (fun b => M b ∧ ¬ Foot H a b) H d (.ref a) := by
  have x : Ext M H (fun b => M b ∧ ¬ Foot H a b) H := Ext.sub fun _ z => z.1
  cases d with
  | lst ds => obtain ⟨_, l, vs, e, q⟩ := w; exact .lst l (fun z => z.2 .self) e (RpL.ext x q)
  | dct ds => obtain ⟨_, l, vs, e, q⟩ := w; exact .dct l (fun z => z.2 .self) e (RpK.ext x q)
  | dt ds => obtain ⟨_, l, vs, e, q⟩ := w; exact .dt l (fun z => z.2 .self) e (RpT.ext x q)
  | obj ds kvs =>
    obtain ⟨_, l, dx, b, vs, ws, e1, r1, mb, l2, e2, r2⟩ := w
    exact .obj (fun z => z.2 .self) e1 l (RpL.ext x r1) (fun z => z.2 (.inr ⟨_, e1, told_hFs l r1⟩)) l2 e2 (RpT.ext x r2)
  | _ => exact w.elim
/-- slot i is owned no more: its object is a value from now on -/
theorem Rep.frz (r : Rep K B M H ρ σ) {i : Nat} {d : D} (hi : ρ[i]? = some (.o d)) : ∃ M', (∀ b, M' b → M b) ∧ Rep K B M' H (ρ.set i (.v d)) σ := by
  obtain ⟨a, e1, w, nb⟩ := r.slot i _ hi
  have hv := join_of e1
  have an : ∀ c, Foot H a c → Anon H (ρ.set i .no) (σ.set i (some (V.ref a))) c := fun c f j s b hj ho hv' f' => by
    rcases set_cases hj with ⟨_, rfl, _⟩ | ⟨e, hj⟩
    · cases ho
    · rw [List.getElem?_set_ne (Ne.symm e)] at hv'
      exact r.apart j i s _ b a c e hj hi ho rfl hv' hv f' f
  have r2 := (r.setNo i (some (V.ref a))).drop nb an fun c f p hp z => (r.pr p hp).2.2.1 i _ a hi rfl hv (by rw [z]; exact f)
  have es : σ.set i (some (V.ref a)) = σ := by
    apply List.ext_getElem?
    intro j
    by_cases e : j = i
    · subst e
      rw [List.getElem?_set_self (List.getElem?_eq_some_iff.mp hv).1, hv]
    · rw [List.getElem?_set_ne (Ne.symm e)]
  have r3 := r2.setV i w.rp
  rw [List.set_set, List.set_set, es] at r3
  exact ⟨_, fun b z => z.1, r3⟩
end
end NV

set_option Elab.async false
set_option linter.all false
set_option maxRecDepth 100000
set_option maxHeartbeats 4000000
namespace NV
open PySem PySem.Spec PyProof.Rows L2

structure Exn where
  cls : Str
  fs : List D := []

inductive Res (α : Type) where
  | ok (a : α) (ρ : Env)
  | exc (x : Exn) (ρ : Env)
  /-- nothing is told -/
  | bad
def Res.bind {α β : Type} : Res α → (α → Env → Res β) → Res β
  | .ok a ρ, f => f a ρ
  | .exc x ρ, _ => .exc x ρ
  | .bad, _ => .bad
/-- an operand: a value, or the owned object of a slot, read late -/
inductive RV where
  | val (d : D)
  | own (i : Nat)
def ExR (K : PySem.W.Frag) (mg : Str → Option Value) (M : Addr → Prop) (H : Hp) (x : Exn) (c : Value) (dx : Option Addr) : Prop :=
  ∃ C, mg x.cls = some (Value.ref C) ∧ c = .ref C ∧ match x.fs with
    | [] => dx = none
    | [d] => ∃ a v, dx = some a ∧ ¬ M a ∧ H a = some (.xd [("row", v)]) ∧ Rp K M H d v
    | _ => False

section
variable {α β γ δ : Type}
/-- what must hold behind a result -/
def Post (X : Cx) (B : Base) (W : WX) (R : (Addr → Prop) → Hp → Env → α → β → Prop) (M : Addr → Prop) (H : Hp) (σ : St) (r : Res α) (Q : β → Hp → Prop) : Prop := match r with
  | .ok a ρ' => ∀ (M' : Addr → Prop) (H' : Hp) (b : β), Ext M H M' H' → Rep X.K B M' H' ρ' σ → R M' H' ρ' a b → Q b H'
  | .exc x ρ' => ∀ (M' : Addr → Prop) (H' : Hp) (c : Value) (dx : Option Addr), Ext M H M' H' → Rep X.K B M' H' ρ' σ → ExR X.K X.mg M' H' x c dx → W c dx σ H'
  | .bad => False
variable {X : Cx} {B : Base} {W : WX} {M M' : Addr → Prop} {H H' : Hp} {σ : St} {R : (Addr → Prop) → Hp → Env → α → β → Prop} {R2 : (Addr → Prop) → Hp → Env → γ → δ → Prop}
theorem Post.shift {r : Res α} {Q : β → Hp → Prop} (e : Ext M H M' H') (h : Post X B W R M H σ r Q) : Post X B W R M' H' σ r Q := by
  cases r with
  | ok a ρ => exact fun M2 H2 b e2 r2 q => h M2 H2 b (e.trans e2) r2 q
  | exc x ρ => exact fun M2 H2 c dx e2 r2 q => h M2 H2 c dx (e.trans e2) r2 q
  | bad => exact h
/-- in a row -/
theorem Post.seq {r : Res α} {f : α → Env → Res γ} {Q : δ → Hp → Prop} {Q1 : β → Hp → Prop} (h : Post X B W R2 M H σ (r.bind f) Q)
    (k : ∀ a ρ' M' H' b, Ext M H M' H' → Rep X.K B M' H' ρ' σ → R M' H' ρ' a b → Post X B W R2 M' H' σ (f a ρ') Q → Q1 b H') : Post X B W R M H σ r Q1 := by
  cases r with
  | ok a ρ => exact fun M2 H2 b e2 r2 q => k a ρ M2 H2 b e2 r2 q (Post.shift e2 h)
  | exc x ρ => exact h
  | bad => exact h
theorem Post.imp {R' : (Addr → Prop) → Hp → Env → α → β → Prop} {r : Res α} {Q Q' : β → Hp → Prop} (h : Post X B W R M H σ r Q)
    (k : ∀ a ρ' M' H' b, r = .ok a ρ' → Ext M H M' H' → Rep X.K B M' H' ρ' σ → R' M' H' ρ' a b → (∀ (M2 : Addr → Prop) (H2 : Hp) (b : β), Ext M H M2 H2 → Rep X.K B M2 H2 ρ' σ → R M2 H2 ρ' a b → Q b H2) → Q' b H') : Post X B W R' M H σ r Q' := by
  cases r with
  | ok a ρ => exact fun M2 H2 b e2 r2 q => k a ρ M2 H2 b rfl e2 r2 q h
  | exc x ρ => exact h
  | bad => exact h
end

def RelR (K : PySem.W.Frag) (σ : St) : (Addr → Prop) → Hp → Env → RV → V → Prop := fun M H _ r v => match r with
  | .val d => Rp K M H d v
  | .own i => σ[i]? = some (some v)
abbrev RelF (K : PySem.W.Frag) (B : Base) (σ : St) : (Addr → Prop) → Hp → Env → D → V → Prop := fun M H ρ d v => ∃ a, v = .ref a ∧ Ow K M H d a ∧ (∀ c, Foot H a c → B.H c = none) ∧ (∀ c, Foot H a c → Anon H ρ σ c) ∧ ∀ c, Foot H a c → ∀ p ∈ B.pr, p.1 ≠ c
section
variable {X : Cx} {W : WX} {e : Expr} {es : List Expr}
section
variable {a b c : Expr} {ma mb mc : RM} {f g : D → D → Option D} {r r' : R2} {op : Operator} {cop cop' : CmpOp} {pos : Pos}
theorem RelR.ext {M M' : Addr → Prop} {H H' : Hp} {ρ ρ' : Env} {σ : St} {r : RV} {v : V} (x : Ext M H M' H') (h : RelR X.K σ M H ρ r v) : RelR X.K σ M' H' ρ' r v := by
  cases r with
  | val d => exact Rp.ext x h
  | own i => exact h
end

section
variable {a b : Expr} {rest : List Expr} {ma mb : TM} {pos : Pos}
variable {ea eb : EM}
end
end
end NV

set_option Elab.async false
set_option linter.all false
set_option maxRecDepth 100000
set_option maxHeartbeats 4000000
namespace NV
open PySem PySem.Spec PyProof.Rows L2

section
variable {X : Cx}
end

section
variable {K : PySem.W.Frag} {M : Addr → Prop} {H : Hp}
end
section
variable {X : Cx}
def keyD : D → Option Key
  | .int i => some (.inl i)
  | .str x => some (.inr x)
  | _ => none
end
end NV

set_option Elab.async false
set_option linter.all false
set_option maxRecDepth 100000
set_option maxHeartbeats 4000000
namespace NV
open PySem PySem.Spec PyProof.Rows L2

inductive Out where
  | nx (ρ : Env)
  | rt (d : D) (ρ : Env)
  /-- a new list is handed back -/
  | rtF (d : D) (ρ : Env)
  | bk (ρ : Env)
  | ct (ρ : Env)
  | exc (x : Exn) (ρ : Env)
  | bad
abbrev SM := Env → Out
def Out.seq : Out → SM → Out
  | .nx ρ, f => f ρ
  | o, _ => o
def Res.out {α : Type} : Res α → (α → Env → Out) → Out
  | .ok a ρ, f => f a ρ
  | .exc x ρ, _ => .exc x ρ
  | .bad, _ => .bad
def PostS (X : Cx) (B : Base) (W : WX) (M : Addr → Prop) (H : Hp) (o : Out) (E : Ends) : Prop := match o with
  | .nx ρ => ∀ (M' : Addr → Prop) (H' : Hp) (σ' : St), Ext M H M' H' → Rep X.K B M' H' ρ σ' → E.nx σ' H'
  | .rt d ρ => ∀ (M' : Addr → Prop) (H' : Hp) (σ' : St) (v : V), Ext M H M' H' → Rep X.K B M' H' ρ σ' → Rp X.K M' H' d v → E.rt v H'
  | .rtF d ρ => ∀ (M' : Addr → Prop) (H' : Hp) (σ' : St) (v : V), Ext M H M' H' → Rep X.K B M' H' ρ σ' → RelF X.K B σ' M' H' ρ d v → E.rt v H'
  | .bk ρ => ∀ (M' : Addr → Prop) (H' : Hp) (σ' : St), Ext M H M' H' → Rep X.K B M' H' ρ σ' → E.bk σ' H'
  | .ct ρ => ∀ (M' : Addr → Prop) (H' : Hp) (σ' : St), Ext M H M' H' → Rep X.K B M' H' ρ σ' → E.ct σ' H'
  | .exc x ρ => ∀ (M' : Addr → Prop) (H' : Hp) (σ' : St) (c : Value) (dx : Option Addr), Ext M H M' H' → Rep X.K B M' H' ρ σ' → ExR X.K X.mg M' H' x c dx → W c dx σ' H'
  | .bad => False

section
variable {X : Cx} {W : WX} {B : Base} {M M' : Addr → Prop} {H H' : Hp}
theorem PostS.shift {o : Out} {E : Ends} (e : Ext M H M' H') (h : PostS X B W M H o E) : PostS X B W M' H' o E := by
  cases o with
  | nx ρ => exact fun M2 H2 s2 e2 r2 => h M2 H2 s2 (e.trans e2) r2
  | rt d ρ => exact fun M2 H2 s2 v e2 r2 q => h M2 H2 s2 v (e.trans e2) r2 q
  | rtF d ρ => exact fun M2 H2 s2 v e2 r2 q => h M2 H2 s2 v (e.trans e2) r2 q
  | bk ρ => exact fun M2 H2 s2 e2 r2 => h M2 H2 s2 (e.trans e2) r2
  | ct ρ => exact fun M2 H2 s2 e2 r2 => h M2 H2 s2 (e.trans e2) r2
  | exc x ρ => exact fun M2 H2 s2 c dx e2 r2 q => h M2 H2 s2 c dx (e.trans e2) r2 q
  | bad => exact h
/-- an expression's result, then a statement's -/
theorem PostS.out {α β : Type} {R : (Addr → Prop) → Hp → Env → α → β → Prop} {σ : St} {r : Res α} {f : α → Env → Out} {E : Ends} {Q1 : β → Hp → Prop} (h : PostS X B W M H (r.out f) E)
    (k : ∀ a ρ' M' H' b, Ext M H M' H' → Rep X.K B M' H' ρ' σ → R M' H' ρ' a b → PostS X B W M' H' (f a ρ') E → Q1 b H') : Post X B W R M H σ r Q1 := by
  cases r with
  | ok a ρ => exact fun M2 H2 b e2 r2 q => k a ρ M2 H2 b e2 r2 q (PostS.shift e2 h)
  | exc x ρ => exact fun M2 H2 c dx e2 r2 q => h M2 H2 σ c dx e2 r2 q
  | bad => exact h
theorem PostS.seq {o : Out} {f : SM} {E : Ends} {nx : St → Hp → Prop} (h : PostS X B W M H (o.seq f) E)
    (k : ∀ ρ' M' H' σ', Ext M H M' H' → Rep X.K B M' H' ρ' σ' → PostS X B W M' H' (f ρ') E → nx σ' H') : PostS X B W M H o { E with nx := nx } := by
  cases o with
  | nx ρ => exact fun M2 H2 s2 e2 r2 => k ρ M2 H2 s2 e2 r2 (PostS.shift e2 h)
  | rt d ρ => exact h
  | rtF d ρ => exact h
  | bk ρ => exact h
  | ct ρ => exact h
  | exc x ρ => exact h
  | bad => exact h
end

section
variable {X : Cx} {W : WX} {st : Stmt} {rest : List Stmt} {e : Expr} {pos : Pos}
def ownSet (ρ : Env) (i : Nat) (d : D) : Env := match ρ[i]? with
  | some (.p _) => ρ.set i (.p d)
  | some (.o _) => ρ.set i (.o d)
  | _ => ρ
end
end NV

set_option Elab.async false
set_option linter.all false
set_option maxRecDepth 100000
set_option maxHeartbeats 4000000
namespace NV
open PySem PySem.Spec PyProof.Rows L2

section
variable {X : Cx} {W : WX}
end

def keepV : Slot → Slot
  | .v d => .v d
  | _ => .no
/-- .. as they were ahead of it -/
def backE (ρ1 : Env) : List Nat → Env → Env
  | [], ρ => ρ
  | v :: vs, ρ => (backE ρ1 vs ρ).set v (keepV (ρ1[v]?.getD .no))
def backS (σ1 : St) : List Nat → St → St
  | [], σ => σ
  | v :: vs, σ => (backS σ1 vs σ).set v (σ1[v]?.join)
section
variable {K : PySem.W.Frag} {B : Base} {M M' : Addr → Prop} {H H' : Hp} {ρ ρ1 : Env} {σ σ1 : St}
theorem Rep.back (r1 : Rep K B M H ρ1 σ1) (x : Ext M H M' H') : ∀ (vs : List Nat) {ρ : Env} {σ : St}, Rep K B M' H' ρ σ → Rep K B M' H' (backE ρ1 vs ρ) (backS σ1 vs σ)
  | [], _, _, r => r
  | v :: vs, ρ, σ, r => by
    have ih := r1.back x vs r
    unfold backE backS
    cases e : ρ1[v]? with
    | none => exact ih.setNo v _
    | some s =>
      cases s with
      | v d =>
        obtain ⟨w, e1, q⟩ := r1.slot v _ e
        rw [e1]
        exact ih.setV v (Rp.ext x q)
      | _ => exact ih.setNo v _
/-- meanwhile a holds o -/
def Base.with (B : Base) (a : Addr) (o : HO) : Base := { B with pr := (a, o) :: B.pr }
end

section
variable {X : Cx} {W : WX}
end
end NV

set_option Elab.async false
set_option linter.all false
set_option maxRecDepth 100000
set_option maxHeartbeats 4000000
namespace NV
open PySem PySem.Spec PyProof.Rows L2

def ArgR (K : PySem.W.Frag) (M : Addr → Prop) (H : Hp) : List Bool → List D → List V → List Addr → Prop
  | [], [], [], [] => True
  | false :: fs, d :: ds, v :: vs, as => Rp K M H d v ∧ ArgR K M H fs ds vs as
  | true :: fs, d :: ds, v :: vs, a :: as => v = .ref a ∧ Ow K M H d a ∧ ArgR K M H fs ds vs as
  | _, _, _, _ => False
def Kept (as : List Addr) (H H' : Hp) : Prop := ∀ b o, H b = some o → (∀ a ∈ as, ¬ Foot H a b) → H' b = some o
/-- nothing belongs to two of them -/
def FApart (H : Hp) (as : List Addr) : Prop := as.Pairwise fun a b => ∀ c, Foot H a c → Foot H b c → False
/-- what belongs to them did so ahead -/
def FSub (as : List Addr) (H H' : Hp) : Prop := (∀ a ∈ as, ∀ c, Foot H' a c → Foot H a c) ∧ ∀ b, H b ≠ none → H' b ≠ none
def slotsOf : List Bool → List D → Env
  | false :: fs, d :: ds => .v d :: slotsOf fs ds
  | true :: fs, d :: ds => .p d :: slotsOf fs ds
  | _, _ => []
def owns : List Bool → Env → Option (List D)
  | [], _ => some []
  | false :: fs, _ :: ρ => owns fs ρ
  | true :: fs, .p d :: ρ => (owns fs ρ).map fun ds => d :: ds
  | _, _ => none
section
variable {K : PySem.W.Frag} {M M' : Addr → Prop} {H H' : Hp}
theorem ArgR.len : ∀ {fl : List Bool} {ds : List D} {vs : List V} {as : List Addr}, ArgR K M H fl ds vs as → vs.length = fl.length ∧ ds.length = fl.length
  | [], [], [], [], _ => ⟨rfl, rfl⟩
  | false :: fs, d :: ds, v :: vs, as, h => by
    obtain ⟨_, h⟩ := h
    obtain ⟨a, b⟩ := ArgR.len h
    exact ⟨by simp [a], by simp [b]⟩
  | true :: fs, d :: ds, v :: vs, a :: as, h => by
    obtain ⟨_, _, h⟩ := h
    obtain ⟨a, b⟩ := ArgR.len h
    exact ⟨by simp [a], by simp [b]⟩
/-- where the owned parameters stand -/
def paOf : List Bool → List Addr → Nat → Option Addr
  | [], _, _ => none
  | false :: fs, as, 0 => none
  | false :: fs, as, i + 1 => paOf fs as i
  | true :: fs, [], _ => none
  | true :: fs, a :: as, 0 => some a
  | true :: fs, a :: as, i + 1 => paOf fs as i
theorem ArgR.slot {n : Nat} : ∀ {fl : List Bool} {ds : List D} {vs : List V} {as : List Addr}, ArgR K M H fl ds vs as → ∀ (i : Nat) (s : Slot), (slotsOf fl ds ++ List.replicate n .no)[i]? = some s →
    match s with
    | .no => True
    | .v d => ∃ v, vs[i]? = some v ∧ Rp K M H d v
    | .p d => ∃ a, vs[i]? = some (.ref a) ∧ Ow K M H d a ∧ paOf fl as i = some a
    | .o _ => False
  | [], [], [], [], _, i, s, h => by
    have h : (List.replicate n Slot.no)[i]? = some s := h
    rw [List.getElem?_replicate] at h
    split at h <;> cases h
    trivial
  | false :: fs, d :: ds, v :: vs, as, hh, 0, s, h => by
    cases h
    exact ⟨v, rfl, hh.1⟩
  | false :: fs, d :: ds, v :: vs, as, hh, i + 1, s, h => by
    have q := ArgR.slot (n := n) hh.2 i s (by simpa [slotsOf] using h)
    cases s <;> exact q
  | true :: fs, d :: ds, v :: vs, a :: as, hh, 0, s, h => by
    cases h
    obtain ⟨e, w, _⟩ := hh
    subst e
    exact ⟨a, rfl, w, rfl⟩
  | true :: fs, d :: ds, v :: vs, a :: as, hh, i + 1, s, h => by
    have q := ArgR.slot (n := n) hh.2.2 i s (by simpa [slotsOf] using h)
    cases s <;> exact q
end
end NV

set_option Elab.async false
set_option linter.all false
set_option maxRecDepth 100000
set_option maxHeartbeats 4000000
namespace NV
open PySem PySem.Spec PyProof.Rows L2

mutual
def D.flat : D → Bool
  | .tup xs => flatL xs
  | .lst _ => false
  | .dct _ => false
  | .exn _ _ => false
  | .dt _ => false
  | .obj _ _ => false
  | _ => true
def flatL : List D → Bool
  | [] => true
  | d :: ds => d.flat && flatL ds
end
/-- an owned object with flat contents -/
def D.flatO : D → Bool
  | .lst xs => flatL xs
  | .obj fs td => flatL fs && flatL (td.map (·.2))
  | _ => false
section
variable {K : PySem.W.Frag} {M M' : Addr → Prop} {H : Hp}
mutual
theorem Rp.flat : ∀ {d : D} {v : V}, Rp K M H d v → d.flat = true → Rp K M' H d v
  | .non, _, h, _ => by cases h; exact .non
  | .bl b, _, h, _ => by cases h; exact .bl b
  | .int i, _, h, _ => by cases h; exact .int i
  | .str z, _, h, _ => by
    cases h with
    | str g => exact .str g
  | .tup ds, _, h, f => by
    cases h with
    | tup l s q => exact .tup l s (RpL.flat q f)
  | .lst ds, _, h, f => by cases f
  | .dct kvs, _, h, f => by cases f
  | .exn _ _, _, h, f => by cases f
  | .dt _, _, h, f => by cases f
  | .obj _ _, _, h, f => by cases f
  | .scr xs, _, h, _ => by
    cases h with
    | scr l s => exact .scr l s
theorem RpL.flat : ∀ {ds : List D} {vs : List V}, RpL K M H ds vs → flatL ds = true → RpL K M' H ds vs
  | [], _, h, _ => by cases h; exact .nil
  | d :: ds, _, h, f => by
    cases h with
    | cons a b =>
      unfold flatL at f
      rw [Bool.and_eq_true] at f
      exact .cons (Rp.flat a f.1) (RpL.flat b f.2)
end
theorem RpT.flat : ∀ {ds : List (List Key × D)} {vs : List (List Key × V)}, RpT K M H ds vs → flatL (ds.map (·.2)) = true → RpT K M' H ds vs
  | [], _, h, _ => by cases h; exact .nil
  | d :: ds, _, h, f => by
    cases h with
    | cons a b =>
      rw [List.map_cons] at f
      unfold flatL at f
      rw [Bool.and_eq_true] at f
      exact .cons (Rp.flat a f.1) (RpT.flat b f.2)
theorem Ow.flat {d : D} {a : Addr} (w : Ow K M H d a) (f : d.flatO = true) (hm : ∀ c, Foot H a c → M' c) : Ow K M' H d a := by
  cases d with
  | lst ds => obtain ⟨_, l, vs, e, q⟩ := w; exact ⟨hm _ .self, l, vs, e, q.flat f⟩
  | obj fs td =>
    obtain ⟨_, l, dx, b, vs, ws, e1, r1, mb, l2, e2, r2⟩ := w
    unfold D.flatO at f
    rw [Bool.and_eq_true] at f
    exact ⟨hm _ .self, l, dx, b, vs, ws, e1, r1.flat f.1, hm b (.inr ⟨_, e1, told_hFs l r1⟩), l2, e2, r2.flat f.2⟩
  | _ => cases f
end

def upO (ρ : Env) : List Nat → List D → Option Env
  | [], [] => some ρ
  | [i], [d] => some (ownSet ρ i d)
  | i :: j :: is, d :: e :: ds => upO (ownSet ρ i d) (j :: is) (e :: ds)
  | _, _ => none
section
variable {K : PySem.W.Frag} {B : Base} {M M' : Addr → Prop} {H H' : Hp} {ρ ρ2 : Env} {σ : St}
/-- the addresses of owned slots -/
inductive OwnAt (ρ : Env) (σ : St) : List Nat → List Addr → Prop
  | nil : OwnAt ρ σ [] []
  | cons {i : Nat} {s : Slot} {a : Addr} {is : List Nat} {as : List Addr} : ρ[i]? = some s → isOwn s = true → σ[i]? = some (some (V.ref a)) → OwnAt ρ σ is as → OwnAt ρ σ (i :: is) (a :: as)
theorem OwnAt.length {is : List Nat} {as : List Addr} (h : OwnAt ρ σ is as) : is.length = as.length := by
  induction h with
  | nil => rfl
  | cons _ _ _ _ ih => simp [ih]
theorem OwnAt.at {is : List Nat} {as : List Addr} (h : OwnAt ρ σ is as) {a : Addr} (ha : a ∈ as) : ∃ i s, i ∈ is ∧ ρ[i]? = some s ∧ isOwn s = true ∧ σ[i]? = some (some (V.ref a)) := by
  induction h with
  | nil => cases ha
  | @cons i s b is as h1 h2 h3 _ ih =>
    rcases List.mem_cons.mp ha with e | ha
    · subst e; exact ⟨i, s, List.mem_cons_self, h1, h2, h3⟩
    · obtain ⟨j, t, m, q⟩ := ih ha
      exact ⟨j, t, List.mem_cons_of_mem _ m, q⟩
theorem OwnAt.apart {is : List Nat} {as : List Addr} (h : OwnAt ρ σ is as) (r : Rep K B M H ρ σ) (nd : is.Nodup) : FApart H as := by
  induction h with
  | nil => exact List.Pairwise.nil
  | @cons i s b is as h1 h2 h3 h4 ih =>
    obtain ⟨n1, n2⟩ := List.nodup_cons.mp nd
    refine List.Pairwise.cons (fun b' hb c f1 f2 => ?_) (ih n2)
    obtain ⟨j, t, m, q1, q2, q3⟩ := h4.at hb
    exact r.apart i j s t b b' c (fun z => n1 (z ▸ m)) h1 q1 h2 q2 h3 q3 f1 f2
theorem own_set {i : Nat} {s : Slot} {d : D} (h1 : ρ[i]? = some s) (h2 : isOwn s = true) : ownSet ρ i d = ρ.set i (reSlot s d) := by
  unfold ownSet
  rw [h1]
  cases s with
  | no => cases h2
  | v _ => cases h2
  | o _ => rfl
  | p _ => rfl
theorem OwnAt.set {is : List Nat} {as : List Addr} (h : OwnAt ρ σ is as) {i : Nat} (x : Slot) (n : i ∉ is) : OwnAt (ρ.set i x) σ is as := by
  induction h with
  | nil => exact .nil
  | @cons j s b is as h1 h2 h3 h4 ih =>
    simp only [List.mem_cons, not_or] at n
    exact .cons (by rw [List.getElem?_set_ne n.1]; exact h1) h2 h3 (ih n.2)
/-- what the slots hold behind a call -/
theorem upO_get {Pd : D → Addr → Prop} : ∀ {is : List Nat} {as : List Addr} {os : List D} {ρ ρ2 : Env}, OwnAt ρ σ is as → is.Nodup → Paired Pd os as → upO ρ is os = some ρ2 →
    ρ2.length = ρ.length ∧ ∀ j s, ρ2[j]? = some s → (j ∉ is ∧ ρ[j]? = some s) ∨ ∃ s0 a d, j ∈ is ∧ ρ[j]? = some s0 ∧ isOwn s0 = true ∧ σ[j]? = some (some (V.ref a)) ∧ a ∈ as ∧ Pd d a ∧ s = reSlot s0 d
  | [], as, os, ρ, ρ2, hi, nd, hp, hu => by
    cases hi
    cases hp
    cases hu
    exact ⟨rfl, fun j s h => .inl ⟨by simp, h⟩⟩
  | i :: is, as, os, ρ, ρ2, hi, nd, hp, hu => by
    obtain ⟨n1, n2⟩ := List.nodup_cons.mp nd
    cases hi with
    | @cons _ s a _ as h1 h2 h3 h4 =>
      cases hp with
      | @cons d _ os _ w hp =>
        have hu' : upO (ρ.set i (reSlot s d)) is os = some ρ2 := by
          match is, os, hu, h4, hp with
          | [], [], hu, _, _ =>
            rw [← own_set h1 h2]
            exact hu
          | j :: is, e :: os, hu, _, _ =>
            rw [← own_set h1 h2]
            exact hu
          | [], _ :: _, _, h4, hp => cases h4; cases hp
          | _ :: _, [], _, h4, hp => cases hp; cases h4
        obtain ⟨l, ih⟩ := upO_get (h4.set _ n1) n2 hp hu'
        refine ⟨by rw [l, List.length_set], fun j t hj => ?_⟩
        rcases ih j t hj with ⟨m, q⟩ | ⟨s0, a', d', m, q1, q2, q3, q4, q5, q6⟩
        · rcases set_cases q with ⟨rfl, rfl, _⟩ | ⟨ne, q⟩
          · exact .inr ⟨s, a, d, List.mem_cons_self, h1, h2, h3, List.mem_cons_self, w, rfl⟩
          · exact .inl ⟨by simp [ne, m], q⟩
        · rcases set_cases q1 with ⟨rfl, _, _⟩ | ⟨ne, q1⟩
          · exact absurd m n1
          · exact .inr ⟨s0, a', d', List.mem_cons_of_mem _ m, q1, q2, q3, List.mem_cons_of_mem _ q4, q5, q6⟩
/-- behind a call -/
theorem Rep.called (r : Rep K B M H ρ σ) {is : List Nat} {as : List Addr} {os : List D} (hi : OwnAt ρ σ is as) (nd : is.Nodup) (hk : Kept as H H') (hs : FSub as H H') (hm : ∀ b, M b → M' b) (hn : ∀ b, M' b → M b ∨ H b = none) (ht : ∀ b, M' b → H' b ≠ none)
    (hp : Paired (Ow K M' H') os as) (hu : upO ρ is os = some ρ2) : Rep K B M' H' ρ2 σ ∧ Ext M H M' H' := by
  have nn : ∀ {b : Addr} {o : HO}, H b = some o → ¬ M b → ¬ M' b := fun e n m => (hn _ m).elim n fun z => by rw [z] at e; cases e
  have ofA : ∀ {a : Addr}, a ∈ as → ∃ d, Ow K M H d a := fun ha => by
    obtain ⟨i, s, _, h1, h2, h3⟩ := hi.at ha
    obtain ⟨d, w, _⟩ := r.ownAt h1 h2 h3
    exact ⟨d, w⟩
  have x : Ext M H M' H' := fun b o e h => ⟨hk b o e fun a ha f => by
    obtain ⟨d, w⟩ := ofA ha
    obtain ⟨m, u, q, im⟩ := w.foot f
    rw [e] at q
    cases q
    exact h.elim (fun n => n m) im, nn e⟩
  obtain ⟨l, g⟩ := upO_get hi nd hp hu
  have out : ∀ (j : Nat) (s : Slot) (b c : Addr), j ∉ is → ρ[j]? = some s → isOwn s = true → σ[j]? = some (some (V.ref b)) → Foot H b c → H' c = H c := fun j s b c n hj ho hv f => by
    obtain ⟨d, w, _⟩ := r.ownAt hj ho hv
    obtain ⟨_, o, q, _⟩ := w.foot f
    rw [q]
    refine hk c o q fun a ha f' => ?_
    obtain ⟨i, t, m, h1, h2, h3⟩ := hi.at ha
    exact r.apart i j t s a b c (fun z => n (z ▸ m)) h1 hj h2 ho h3 hv f' f
  refine ⟨r.change (fun b o h1 h2 h3 => hk b o h3 fun a ha f => ?_) hs.2 hm hn ht l (fun p hp q => hk _ _ q fun a ha f => ?_) (fun j t hj => ?_) (fun j s b c hj ho hv f => ?_), x⟩
  · obtain ⟨i, s, _, q1, q2, q3⟩ := hi.at ha
    obtain ⟨d, w, k⟩ := r.ownAt q1 q2 q3
    rcases k with ⟨_, k⟩ | ⟨_, k, k2⟩
    · rw [k b f] at h1; cases h1
    · exact h2 i a k (k2 b f)
  · obtain ⟨i, s, _, q1, q2, q3⟩ := hi.at ha
    exact (r.pr p hp).2.2.1 i s a q1 q2 q3 f
  · rcases g j t hj with ⟨m, q⟩ | ⟨s0, a, d, m, q1, q2, q3, q4, q5, q6⟩
    · exact ⟨(r.slot j t q).ext x fun b c ho hb f mb => ⟨hm c mb, out j t b c m q ho (join_of hb) f⟩, t, q, rfl⟩
    · obtain ⟨d0, w0, k⟩ := r.ownAt q1 q2 q3
      refine ⟨?_, s0, q1, ?_⟩
      · rw [of_join q3]
        rcases k with ⟨rfl, k⟩ | ⟨rfl, k, k2⟩
        · subst q6; exact ⟨a, rfl, q5, fun c f => k c (hs.1 a q4 c f)⟩
        · subst q6; exact ⟨a, rfl, q5, k, fun c f => k2 c (hs.1 a q4 c f)⟩
      · subst q6
        cases s0 <;> first | rfl | cases q2
  · by_cases m : j ∈ is
    · have mem : ∀ {is : List Nat} {as : List Addr}, OwnAt ρ σ is as → j ∈ is → b ∈ as := by
        intro is as h
        induction h with
        | nil => intro z; cases z
        | cons h1 h2 h3 _ ih =>
          intro z
          rcases List.mem_cons.mp z with e | z
          · subst e
            rw [hv] at h3
            cases h3
            exact List.mem_cons_self
          · exact List.mem_cons_of_mem _ (ih z)
      exact hs.1 b (mem hi m) c f
    · exact f.of_eq (out j s b b m hj ho hv .self)
def Lend (l : List Nat) (M : Addr → Prop) (H : Hp) (σ : St) : Addr → Prop := fun b => M b ∧ ∀ j ∈ l, ∀ a, σ[j]? = some (some (V.ref a)) → ¬ Foot H a b
theorem Lend.nil {b : Addr} (h : M b) : Lend [] M H σ b := ⟨h, fun _ z => by cases z⟩
end

section
variable {X : Cx} {W : WX} {k : Nat} {f : Addr} {fd : FuncData} {ps : List Str} {x : Str} {p pos : Pos} {e : Expr} {es : List Expr} {fl : List Bool} {F : List D → FRes} {ma : AM} {t : TA}
theorem lend_back {K : PySem.W.Frag} {N N' : Addr → Prop} {H : Hp} {l : List Nat} {d : D} {v : V} (h : Rp K N H d v) (hN : l = [] → ∀ b, N' b → N b) (hf : (l.isEmpty || d.flat) = true) : Rp K N' H d v := by
  cases l with
  | nil => exact h.ext fun b o e _ => ⟨e, fun n z => n (hN rfl b z)⟩
  | cons a l => exact h.flat (by simpa using hf)
theorem ExR.back {K : PySem.W.Frag} {mg : Str → Option Value} {M : Addr → Prop} {H H0 : Hp} {σ : St} {l : List Nat} {xx : Exn} {c : Value} {dx : Option Addr} (h : ExR K mg (Lend l M H0 σ) H xx c dx) (hf : (l.isEmpty || flatL xx.fs) = true)
    (hx : ∀ a fs, H a = some (.xd fs) → M a → Lend l M H0 σ a) : ExR K mg M H xx c dx := by
  obtain ⟨C, h1, h2, h3⟩ := h
  refine ⟨C, h1, h2, ?_⟩
  split at h3
  · rename_i e; exact h3
  · rename_i d e
    obtain ⟨a, v, e1, nm, e2, e3⟩ := h3
    refine ⟨a, v, e1, fun z => nm (hx a _ e2 z), e2, lend_back (l := l) e3 (fun e b h => by subst e; exact Lend.nil h) ?_⟩
    rw [e] at hf
    simpa [flatL] using hf
  · exact h3
end
end NV

set_option Elab.async false
set_option linter.all false
set_option maxRecDepth 100000
set_option maxHeartbeats 4000000
namespace NV
open PySem PySem.Spec PyProof.Rows L2

inductive TyN where
  | bool | int | str | tuple | list | dict
def TyN.nm : TyN → String
  | .bool => "bool"
  | .int => "int"
  | .str => "str"
  | .tuple => "tuple"
  | .list => "list"
  | .dict => "dict"
section
variable {X : Cx} {W : WX} {e : Expr} {p p2 pos : Pos}
end
end NV

set_option Elab.async false
set_option linter.all false
set_option maxRecDepth 100000
set_option maxHeartbeats 4000000
namespace NV
open PySem PySem.Spec PyProof.Rows L2

section
variable {X : Cx} {W : WX}
end

def seesN (fa : List He.Fa) (xs : List (PySem.W.Frag → Bool)) (fn : List He.DefD) (K : PySem.W.Frag) : Bool × He.AlD := (xs.all fun c => c K, He.obsD fa fn K)
def saysN (fa : List He.Fa) (xs : List (PySem.W.Frag → Bool)) (fn : List He.DefD) (K : PySem.W.Frag) : Prop := seesN fa xs fn K = (true, He.valD fn)
theorem saysN.d {fa : List He.Fa} {xs : List (PySem.W.Frag → Bool)} {fn : List He.DefD} {K : PySem.W.Frag} (h : saysN fa xs fn K) : He.SaysD fa fn K := congrArg Prod.snd h
theorem saysN.x {fa : List He.Fa} {xs : List (PySem.W.Frag → Bool)} {fn : List He.DefD} {K : PySem.W.Frag} (h : saysN fa xs fn K) (i : Nat) {c : PySem.W.Frag → Bool} (hi : xs[i]? = some c) : c K = true :=
  List.all_eq_true.mp (congrArg Prod.fst h) c (List.mem_of_getElem? hi)
section
variable {K : PySem.W.Frag} {h : Heap} {mg : Str → Option Value}
/-- a tuple of texts -/
def tupS (x : Str) (zs : List Str) (K : PySem.W.Frag) : Bool := He.tupB K x (zs.map He.Dv.str)
end
end NV

set_option Elab.async false
set_option linter.all false
set_option maxRecDepth 100000
set_option maxHeartbeats 4000000
namespace NV
open PySem PySem.Spec PyProof.Rows L2

/-- what isinstance needs of a class, as one check -/
def excB (x : Str) (K : PySem.W.Frag) : Bool :=
  decide (PySem.W.findIn K (.ref (He.ga K x)) "__getattribute__" = some (some (.builtin "BaseException.__getattribute__"))) && (decide (PySem.W.findIn K (.ref (He.ga K x)) "__getattr__" = some none) &&
  (decide (PySem.W.subIn K (.ref (He.ga K x)) (.type "BaseException") = some true) && (PySem.W.hasDictIn K (He.ga K x) && (decide (PySem.W.findIn K (.ref (He.ga K x)) "__class__" = some (some (.builtin "object.__class__"))) &&
  (decide (PySem.W.specialIn K (.builtin "object.__class__") "__get__" = some (some (.builtin "getset_descriptor.__get__"))) && (decide (PySem.W.takesIn K (.builtin "object.__class__") = some true) && decide (PySem.W.mroIn K (He.ga K x) (.type "object") = some true)))))))
/-- isinstance of the class x's instances: of the own class y, of a built-in one -/
def insB (x y : Str) (b : Bool) (K : PySem.W.Frag) : Bool := decide (PySem.W.kitOne K (.ref (He.ga K x)) (.ref (He.ga K y)) = some b)
def insT (x : Str) (y : String) (b : Bool) (K : PySem.W.Frag) : Bool := decide (PySem.W.kitOne K (.ref (He.ga K x)) (.type y) = some b)
section
variable {X : Cx} {W : WX} {x m : Str} {j : Nat} {p p1 p2 pos pos2 apos cpos : Pos} {e a b : Expr} {es : List Expr}
end
end NV

set_option Elab.async false
set_option linter.all false
set_option maxRecDepth 100000
set_option maxHeartbeats 4000000
namespace NV
open PySem PySem.Spec PyProof.Rows L2

/-- a def's promise, wherever it is called: an exception may be handled -/
structure FnT (P : Program) (w : World) (K : PySem.W.Frag) (mg : Str → Option Value) (base : Heap) (CX : CXT) (k : Nat) (f : Addr) (fd : FuncData) (ps : List Str) (sp : Sp) : Prop where
  len : ∀ vs H Q E, sp vs H Q E → vs.length = ps.length
  run : ∀ (A : Around) (outer : List PySem.Env) (s : Shared) (H : Hp) (args : Args) (us : List Value) (vs : List V) (Q : VK) (E : XK), L2H.RoomH k A → Env0 P w K mg base A outer s H → BindsTo s fd args (ps.zip us) → Vals vs us → sp vs H Q E →
    codeAny (model P w) A (.call (.ref f) args) (CR CX outer P w H s Q E) s
section
variable {X : Cx} {CX : CXT} {k : Nat} {f : Addr} {fd : FuncData} {ps : List Str} {sp : Sp} {E : L2.St → XK} {x : Str} {p pos : Pos} {e : Expr} {es : List Expr} {t : TA}
end
section
variable {X : Cx} {W : WX} {k n : Nat} {x : Str} {p pos : Pos} {e : Expr} {es : List Expr} {fl : List Bool} {F : List D → FRes} {ma : AM}
end
/-- .. is one of a usual call, too -/
theorem FnT.fn {P : Program} {w : World} {K : PySem.W.Frag} {mg : Str → Option Value} {base : Heap} {CX : CXT} {k : Nat} {f : Addr} {fd : FuncData} {ps : List Str} {sp : Sp} (F : FnT P w K mg base CX k f fd ps sp) : FnOk P w K mg base CX k f fd ps sp :=
  ⟨F.len, fun A outer s H args us vs Q E hr => F.run A outer s H args us vs Q E (L2H.roomH_of hr)⟩
section
variable {X : Cx} {W : WX} {x n : Str} {c : Value} {i : Nat} {body suite : List Stmt} {b0 : Stmt} {np pos pos2 : Pos} {mb ms : SM} {cs : List Str}
end
end NV

set_option Elab.async false
set_option linter.all false
set_option maxRecDepth 100000
set_option maxHeartbeats 4000000
namespace NV
open PySem PySem.Spec PyProof.Rows L2

def clsfB (cs ts : List Str) (K : PySem.W.Frag) : Bool := (He.Fa.glo "TurnError").ok K && (ts.all (fun T => (He.Fa.glo T).ok K) &&
  cs.all fun c => (He.Fa.glo c).ok K && ((c == "NoText" || (He.Fa.exc c).ok K) && (excB c K && (ts.all (fun T => insB c T (c == T) K) && (insT c "ValueError" true K && (He.Fa.exm c "TurnError" true).ok K)))))
section
variable {K : PySem.W.Frag} {h : Heap} {mg : Str → Option Value} {cs ts : List Str}
end
section
variable {X : Cx} {W : WX} {p p1 p2 pos np pos2 : Pos} {x m : Str} {j : Nat} {cs ts : List Str}
end
end NV

set_option Elab.async false
set_option linter.all false
set_option maxRecDepth 100000
set_option maxHeartbeats 4000000
namespace NVT
open PySem PySem.Spec PyProof PyProof.Rows L2
def keyT (e : Int × Value) : Str := strOf e.2
def GoodT (w : World) (e : Int × Value) : Prop := ∃ x tk, e.2 = Value.str x tk ∧ e.1 = hashStr w x
/-- the set of texts at a, whose table rises and can be walked -/
structure SetT (w : World) (h : Heap) (a : Addr) (S : Str → Bool) (o : Obj) (es : Array (Int × Value)) (ep : Nat) (t : SetTable) : Prop where
  at_ : h.get? a = some o
  ex : o.ExactSet
  dat : o.data = .set es ep t
  good : ∀ e ∈ es.toList, GoodT w e
  nd : (es.toList.map keyT).Nodup
  mem : ∀ k, S k = true ↔ k ∈ es.toList.map keyT
  few : es.size < scanBound
  fits : t.fits es.size = true
  ris : Ris t.place.toList
  led : w.params.followText "set-order" = true ∨ t.led = true
def IsT (w : World) (h : Heap) (a : Addr) (S : Str → Bool) (n : Nat) : Prop := ∃ o es ep t, SetT w h a S o es ep t ∧ es.size = n
section
variable {P : Program} {w : World} {h h' : Heap} {a : Addr} {S S' : Str → Bool} {n : Nat}
theorem IsT.keep (R : IsT w h a S n) (k : ∀ o, h.get? a = some o → h'.get? a = some o) : IsT w h' a S n := by
  obtain ⟨o, es, ep, t, r, hn⟩ := R
  exact ⟨o, es, ep, t, { r with at_ := k o r.at_ }, hn⟩
end
section
variable {P : Program} {w : World} {A : Around} {E : Value → Shared → Prop} {s : Shared} {a : Addr} {S : Str → Bool} {n : Nat}
end
end NVT

set_option Elab.async false
set_option linter.all false
set_option maxRecDepth 100000
set_option maxHeartbeats 4000000
namespace NV
open PySem PySem.Spec PyProof.Rows L2
noncomputable def runS (r : PySem.W.OpenRow) (M : Nat) (w : World) (os : OsState) : Option PySem.W.SharedT := HandSHeadRun.endF (HandSHeadRun.stepQ (HandSHeadRun.denQ HandSHeadRun.tabQ) r.prog w) M r.prog w os
end NV

set_option Elab.async false
set_option linter.all false
set_option maxRecDepth 100000
set_option maxHeartbeats 4000000
namespace SrtS
open PySem PySem.W PySem.Calls PyProof.Rows Builtin SrtO
section
variable {prog : Program} {w : World} {A : Around} {E : Value → Shared → Prop} {s : Shared}
def IsPairS (h : Heap) (v : Value) (x : Int) (y : Str) : Prop := ∃ a o t u n, v = .ref a ∧ h.get? a = some o ∧ o.cls = .type "tuple" ∧ o.data = .seq #[.int x t, .str y u] n
theorem IsPairS.keeps {h h' : Heap} {v : Value} {x : Int} {y : Str} (p : IsPairS h v x y) (k : ∀ b o, h.get? b = some o → o.cls = .type "tuple" → h'.get? b = some o) : IsPairS h' v x y := by
  obtain ⟨a, o, t, u, n, e, ho, hc, hd⟩ := p
  exact ⟨a, o, t, u, n, e, k _ _ ho hc, hc, hd⟩
end
end SrtS
namespace NV
open PySem PySem.Spec PyProof.Rows L2
section
variable {X : Cx}
end
section
variable {X : Cx} {W : WX} {pos : Pos}
end
end NV

set_option Elab.async false
set_option linter.all false
set_option maxRecDepth 100000
set_option maxHeartbeats 4000000
namespace NV
open PySem PySem.Spec PyProof.Rows L2
/-- what an own slot holds -/
def ownD : Slot → Option D
  | .o d => some d
  | .p d => some d
  | _ => none
section
variable {K : PySem.W.Frag} {B : Base} {M : Addr → Prop} {H : Hp} {ρ : Env} {σ : St}
end
end NV

set_option Elab.async false
set_option linter.all false
set_option maxRecDepth 100000
set_option maxHeartbeats 4000000
namespace NV
open PySem PySem.Spec PyProof.Rows L2
section
variable {X : Cx} {W : WX} {a : Expr} {ma : RM} {pos p2 : Pos} {x : Str} {tb : List (Str × D)}
end
abbrev TabN : Type := Str × List (Str × Int)
def tabB (t : TabN) (K : PySem.W.Frag) : Bool := He.valsB K (He.ga K t.1) (t.2.map fun q => (q.1, He.Dv.int q.2)) && decide ((t.2.map Prod.fst).Nodup)
abbrev AlM : Type := (Bool × He.AlD) × List (Option (List (Option (Str × Int))))
def seesM (fa : List He.Fa) (xs : List (PySem.W.Frag → Bool)) (ts : List TabN) (fn : List He.DefD) (K : PySem.W.Frag) : AlM := (seesN fa (xs ++ ts.map tabB) fn K, ts.map fun t => He.dicW K (He.ga K t.1))
def valM (ts : List TabN) (fn : List He.DefD) (w : World) : AlM := ((true, He.valD fn), ts.map fun t => some (He.keysIn w.params (t.2.map Prod.fst)))
def saysM (fa : List He.Fa) (xs : List (PySem.W.Frag → Bool)) (ts : List TabN) (fn : List He.DefD) (w : World) (K : PySem.W.Frag) : Prop := seesM fa xs ts fn K = valM ts fn w
theorem saysM.n {fa : List He.Fa} {xs : List (PySem.W.Frag → Bool)} {ts : List TabN} {fn : List He.DefD} {w : World} {K : PySem.W.Frag} (h : saysM fa xs ts fn w K) : saysN fa (xs ++ ts.map tabB) fn K := congrArg Prod.fst h
section
variable {K : PySem.W.Frag} {h : Heap} {mg : Str → Option Value} {w : World}
end
end NV

set_option Elab.async false
set_option linter.all false
set_option maxRecDepth 100000
set_option maxHeartbeats 4000000
namespace NV
open PySem PySem.Spec PyProof.Rows L2
section
variable {X : Cx} {K : PySem.W.Frag} {M : Addr → Prop} {H : Hp}
theorem RpK.keys : ∀ {kvs : List (Key × D)} {ws : List (Key × V)}, RpK K M H kvs ws → ws.map (·.1) = kvs.map (·.1)
  | [], ws, h => by cases h; rfl
  | (k, d) :: r, ws, h => by
    cases h with
    | cons a b => rw [List.map_cons, List.map_cons, RpK.keys b]
end
end NV

set_option Elab.async false
set_option linter.all false
set_option maxRecDepth 100000
set_option maxHeartbeats 4000000
namespace NV
open PySem PySem.Spec PyProof.Rows L2

def keysT : List D → Option (List Key)
  | [] => some []
  | d :: ds => (keyD d).bind fun k => (keysT ds).map fun ks => k :: ks
def lookT (kvs : List (List Key × D)) (k : List Key) : Option D := (kvs.find? fun kv => decide (kv.1 = k)).map (·.2)
section
variable {K : PySem.W.Frag} {M : Addr → Prop} {H : Hp}
end
/-- d[(a, ..)] -/
def getT (d : D) (ks : List D) : Option D := match d with
  | .dt kvs => (keysT ks).bind fun k => lookT kvs k
  | _ => none
section
variable {X : Cx} {W : WX} {o : Expr} {es : List Expr} {mo : RM} {ml : Env → Res (List D)} {pos : Pos} {k : Nat} {p2 : Pos}
end

section
variable {X : Cx} {W : WX} {e o : Expr} {m : RM} {pos pos' : Pos} {k : Nat} {x : Str}
end

section
variable {X : Cx} {W : WX} {k n : Nat} {x : Str} {f : Addr} {fd : FuncData} {ps : List Str} {sp : Sp} {E : St → XK} {o e : Expr} {es : List Expr} {ta : TE} {t : TA} {m : Str} {pos apos : Pos} {fl : List Bool} {F : List D → FRes} {mo : RM} {ma : AM}
end
end NV

set_option Elab.async false
set_option linter.all false
set_option maxRecDepth 100000
set_option maxHeartbeats 4000000
namespace NV
open PySem PySem.Spec PyProof.Rows L2

/-- what the top says of an own class whose __init__ is ValueError's -/
def teB (x : Str) (K : PySem.W.Frag) : Bool := (He.Fa.glo x).ok K && (decide (PySem.W.specialIn K (.ref (He.ga K x)) "__getattribute__" = some (some (.builtin "type.__getattribute__"))) && (PySem.W.readsIn K (He.ga K x) (.type "type") && (match PySem.W.findCls K (.ref (He.ga K x)) (.type "type") "__init__" with
  | some (.val (.builtin n)) => n == "ValueError.__init__"
  | _ => false)))
section
variable {X : Cx} {x : Str} {e : Expr} {es : List Expr} {ta : TA} {p1 p2 pos : Pos}
end

/-- the class's record, as a check -/
def oexB (x : Str) (K : PySem.W.Frag) : Bool := (match K.lookup (He.ga K x) with
  | some ⟨.type "type", _, .cls cd, sl⟩ => (match cd.mro, sl.toList with
    | .ref C' :: bm, [_, _, _, _, some (.builtin n), _] => C' == He.ga K x && n == "ValueError.__new__" && !cd.hasDel && cd.hasDict && PySem.HandSPX.refsVE bm
    | _, _ => false)
  | _ => false) && (decide (PySem.W.findIn K (.ref (He.ga K x)) "__setattr__" = some (some (.builtin "object.__setattr__"))) && (decide (PySem.W.subIn K (.ref (He.ga K x)) (.type "BaseException") = some true) &&
  (decide (PySem.W.typeIn K (.ref (He.ga K x)) = some (.type "type")) && PySem.W.keepIn K (.ref (He.ga K x)))))
section
variable {X : Cx} {W : WX} {e : Expr} {me : EM} {p pos pos2 : Pos} {k : Nat}
end

end NV

set_option Elab.async false
set_option linter.all false
set_option maxRecDepth 100000
set_option maxHeartbeats 4000000
namespace NV
open PySem PySem.Spec PyProof.Rows L2

section
variable {X : Cx} {W : WX} {CX : CXT} {k n : Nat} {f C : Addr} {fd : FuncData} {ps : List Str} {sp : Sp} {E : St → XK} {x : Str} {p pos : Pos} {e : Expr} {es : List Expr} {t : TA}
end
section
variable {X : Cx} {W : WX} {k n : Nat} {p pos : Pos} {e1 e2 : Expr} {ml : Env → Res (List D)} {F : List D → FRes}
end

section
variable {X : Cx} {t1 : TT} {t2 : TE} {m1 : TM} {m2 : EM} {vs : List V} {H : Hp} {Q : VK} {E : XK}
/-- while the fields are stored: the instance, what stood before, what is new -/
structure HJ (H0 : Hp) (x C dx : Addr) (A : Hp) (fs : List (Str × V)) (ps : List (Addr × HO)) : Prop where
  ob : A x = some (.ins C dx fs)
  kp : ∀ b o, H0 b = some o → b ≠ x → A b = some o
  nw : ∀ q ∈ ps, A q.1 = some q.2 ∧ q.1 ≠ x
theorem HJ.new {H0 : Hp} {x C dx : Addr} {A : Hp} {fs : List (Str × V)} {ps : List (Addr × HO)} (j : HJ H0 x C dx A fs ps) {p : Addr} {o : HO} (hp : A p = none) : HJ H0 x C dx (upd A p o) fs ((p, o) :: ps) := by
  have nx : x ≠ p := ne_of_none j.ob hp
  refine ⟨by rw [upd_ne nx]; exact j.ob, fun b u e n => ?_, fun q h => ?_⟩
  · have q := j.kp b u e n
    rw [upd_ne (ne_of_none q hp)]; exact q
  · rcases List.mem_cons.mp h with e | h
    · subst e
      exact ⟨upd_same, Ne.symm nx⟩
    · obtain ⟨a, b⟩ := j.nw q h
      exact ⟨by rw [upd_ne (ne_of_none a hp)]; exact a, b⟩
theorem HJ.old {H0 : Hp} {x C dx : Addr} {A : Hp} {fs : List (Str × V)} {ps : List (Addr × HO)} (j : HJ H0 x C dx A fs ps) {p : Addr} (hp : A p = none) : H0 p = none := by
  cases e : H0 p with
  | none => rfl
  | some o =>
    by_cases n : p = x
    · rw [n, j.ob] at hp; cases hp
    · rw [j.kp p o e n] at hp; cases hp
end
end NV

set_option Elab.async false
set_option linter.all false
set_option maxRecDepth 100000
set_option maxHeartbeats 4000000
namespace NV
open PySem PySem.Spec PyProof.Rows L2
section
variable {K : PySem.W.Frag} {B : Base} {M : Addr → Prop} {H : Hp} {ρ : Env} {σ : St}
/-- slot i's object is held: it stays as it is, and is owned again behind -/
theorem Rep.hold (r : Rep K B M H ρ σ) {i : Nat} {s : Slot} {d : D} (hi : ρ[i]? = some s) (hd : ownD s = some d) : ∃ B' a, σ[i]? = some (some (V.ref a)) ∧ Ow K M H d a ∧ Rep K B' M H (ρ.set i .no) σ ∧
    (∀ c, Foot H a c → B'.H c = H c ∧ ∀ j x, B'.pa j = some x → ¬ Foot B'.H x c) ∧ (∀ c, B'.H c = none → B.H c = none) ∧ B'.pr = B.pr ∧
    ∀ M2 H2 ρ2, Ext M H M2 H2 → Rep K B' M2 H2 ρ2 σ → ρ2[i]? = some .no → Rep K B M2 H2 (ρ2.set i s) σ := by
  have ho : isOwn s = true := by cases s <;> first | rfl | cases hd
  obtain ⟨a, d', e1, w, k⟩ := (r.slot i s hi).own ho
  have ed : d' = d := by
    rcases k with ⟨rfl, _⟩ | ⟨rfl, _⟩ <;> exact Option.some.inj hd
  subst ed
  have hv := join_of e1
  obtain ⟨S, hS⟩ : ∃ S : Addr → Prop, S = fun b => Foot H a b ∨ Foot B.H a b := ⟨_, rfl⟩
  have sF : ∀ {c}, Foot H a c → S c := fun f => by rw [hS]; exact .inl f
  have sP : ∀ {c}, S c → (s = .p d' ∧ B.pa i = some a ∧ Foot B.H a c) ∨ (s = .o d' ∧ Foot H a c ∧ B.H c = none) := fun {c} z => by
    rw [hS] at z
    rcases k with ⟨e, k⟩ | ⟨e, k, k2⟩
    · refine .inr ⟨e, ?_⟩
      rcases z with z | z
      · exact ⟨z, k c z⟩
      · rw [z.new (k a .self)]
        exact ⟨.self, k a .self⟩
    · exact .inl ⟨e, k, z.elim (k2 c) id⟩
  have sM : ∀ {c}, S c → M c := fun {c} z => by
    rcases sP z with ⟨_, k1, k2⟩ | ⟨_, k1, _⟩
    · exact r.sub c (B.pm i a c k1 k2)
    · exact (w.foot k1).1
  have s2 : ∀ {j : Nat} {t : Slot} {b c : Addr}, j ≠ i → ρ[j]? = some t → isOwn t = true → σ[j]? = some (some (V.ref b)) → Foot H b c → ¬ S c := fun {j t b c} ne hj ht hb f z => by
    obtain ⟨dj, wj, kj⟩ := r.ownAt hj ht hb
    rcases sP z with ⟨_, k1, k2⟩ | ⟨_, k1, _⟩
    · rcases kj with ⟨_, kj⟩ | ⟨_, kj, kj2⟩
      · exact B.pt i a c k1 k2 (kj c f)
      · exact B.ap i j a b c (Ne.symm ne) k1 kj k2 (kj2 c f)
    · exact r.apart i j s t a b c (Ne.symm ne) hi hj ho ht hv hb k1 f
  have s3 : ∀ {j : Nat} {b c : Addr}, B.pa j = some b → b ≠ a → Foot B.H b c → ¬ S c := fun {j b c} hj ne f z => by
    rcases sP z with ⟨_, k1, k2⟩ | ⟨_, _, k2⟩
    · refine B.ap i j a b c (fun e => ?_) k1 hj k2 f
      subst e
      rw [k1] at hj
      exact ne (Option.some.inj hj).symm
    · exact B.pt j b c hj f k2
  classical
  obtain ⟨HB, hHB⟩ : ∃ HB : Hp, HB = fun b => if S b then H b else B.H b := ⟨_, rfl⟩
  have hb1 : ∀ {b}, S b → HB b = H b := fun {b} z => by rw [hHB]; exact if_pos z
  have hb2 : ∀ {b}, ¬ S b → HB b = B.H b := fun {b} z => by rw [hHB]; exact if_neg z
  obtain ⟨pa, hpa⟩ : ∃ pa : Nat → Option Addr, pa = fun j => if B.pa j = some a then none else B.pa j := ⟨_, rfl⟩
  have pa1 : ∀ {j b}, pa j = some b → B.pa j = some b ∧ b ≠ a := fun {j b} h => by
    rw [hpa] at h
    dsimp only at h
    split at h
    · cases h
    · rename_i n
      exact ⟨h, fun e => n (by rw [h, e])⟩
  have pa2 : ∀ {j b}, B.pa j = some b → b ≠ a → pa j = some b := fun {j b} h ne => by
    rw [hpa]
    dsimp only
    rw [if_neg fun z => ne (by rw [h] at z; exact Option.some.inj z)]
    exact h
  have ft : ∀ {j b c}, B.pa j = some b → b ≠ a → (Foot HB b c ↔ Foot B.H b c) := fun {j b c} h ne => by
    have e := hb2 (s3 h ne .self)
    exact ⟨fun f => f.of_eq e, fun f => f.of_eq e.symm⟩
  have sN : ∀ {c}, S c → H c ≠ none := fun z => r.trk _ (sM z)
  let B' : Base := ⟨fun b => B.M b ∨ S b, HB, pa, B.pr, fun b h => by
      by_cases z : S b
      · rw [hb1 z]; exact sN z
      · rw [hb2 z]; exact B.mt b (h.elim id fun y => absurd y z),
    fun j k b c x ne h1 h2 f1 f2 => by
      obtain ⟨p1, n1⟩ := pa1 h1
      obtain ⟨p2, n2⟩ := pa1 h2
      exact B.ap j k b c x ne p1 p2 ((ft p1 n1).mp f1) ((ft p2 n2).mp f2),
    fun j b c h f => by
      obtain ⟨p1, n1⟩ := pa1 h
      have f' := (ft p1 n1).mp f
      rw [hb2 (s3 p1 n1 f')]
      exact B.pt j b c p1 f',
    fun j b c h f => by
      obtain ⟨p1, n1⟩ := pa1 h
      exact .inl (B.pm j b c p1 ((ft p1 n1).mp f))⟩
  have prN : ∀ p ∈ B.pr, ¬ S p.1 := fun p hp z => by
    obtain ⟨p1, p2, p3, p4⟩ := r.pr p hp
    rcases sP z with ⟨_, k1, k2⟩ | ⟨_, k1, _⟩
    · exact B.pt i a _ k1 k2 p4
    · exact p3 i s a hi ho hv k1
  have r' : Rep K B' M H (ρ.set i .no) σ := by
    refine ⟨fun b o h1 h2 => ?_, fun b h => ?_, fun b h => h.elim (r.sub b) sM, fun b h => ?_, r.trk, by simp [r.len], fun j t hj => ?_, fun j k t u b c x ne h1 h2 o1 o2 v1 v2 => ?_, fun p hp => ?_⟩
    · by_cases z : S b
      · exact (hb1 z).symm.trans h1
      · refine r.keep b o ((hb2 z).symm.trans h1) fun j x hj f => ?_
        by_cases e : x = a
        · rw [e] at f
          exact z (by rw [hS]; exact .inr f)
        · exact h2 j x (pa2 hj e) ((ft hj e).mpr f)
    · by_cases z : S b
      · exact fun e => h ((hb1 z).trans e)
      · exact r.old b fun e => h ((hb2 z).trans e)
    · by_cases z : S b
      · exact .inl (.inr z)
      · rcases r.new b h with q | q
        · exact .inl (.inl q)
        · exact .inr ((hb2 z).trans q)
    · rcases set_cases hj with ⟨rfl, rfl, hlt⟩ | ⟨ne, hj⟩
      · trivial
      · have q := r.slot j t hj
        cases t with
        | no => trivial
        | v d => exact q
        | o d =>
          obtain ⟨b, q1, q2, q3⟩ := q
          exact ⟨b, q1, q2, fun c f => (hb2 (s2 ne hj rfl (join_of q1) f)).trans (q3 c f)⟩
        | p d =>
          obtain ⟨b, q1, q2, q3, q4⟩ := q
          have nb : b ≠ a := fun e => by
            subst e
            exact s2 ne hj rfl (join_of q1) .self (sF .self)
          exact ⟨b, q1, q2, pa2 q3 nb, fun c f => (ft q3 nb).mpr (q4 c f)⟩
    · rcases set_cases h1 with ⟨_, rfl, _⟩ | ⟨_, h1⟩
      · cases o1
      · rcases set_cases h2 with ⟨_, rfl, _⟩ | ⟨_, h2⟩
        · cases o2
        · exact r.apart j k t u b c x ne h1 h2 o1 o2 v1 v2
    · obtain ⟨p1, p2, p3, p4⟩ := r.pr p hp
      refine ⟨p1, p2, fun j t b hj ht hb f => ?_, (hb2 (prN p hp)).trans p4⟩
      rcases set_cases hj with ⟨_, rfl, _⟩ | ⟨_, hj⟩
      · cases ht
      · exact p3 j t b hj ht hb f
  have noPa : ∀ c, Foot H a c → ∀ j x, pa j = some x → ¬ Foot HB x c := fun c f j x hj g => by
    obtain ⟨p1, n1⟩ := pa1 hj
    exact s3 p1 n1 ((ft p1 n1).mp g) (sF f)
  refine ⟨B', a, hv, w, r', fun c f => ⟨hb1 (sF f), noPa c f⟩, fun c z => ?_, rfl, fun M2 H2 ρ2 x2 q hno => ?_⟩
  · by_cases zS : S c
    · have z : HB c = none := z
      rw [hb1 zS] at z
      exact absurd z (sN zS)
    · exact (hb2 zS).symm.trans z
  have wf : ∀ {c}, Foot H a c → H2 c = H c := fun {c} f => by
    cases e : H c with
    | none => exact absurd e (sN (sF f))
    | some o => exact q.keep c o ((hb1 (sF f)).trans e) (noPa c f)
  have fA : ∀ {c}, Foot H2 a c → Foot H a c := fun f => f.of_eq (wf .self)
  have pA : ∀ {b : Addr} {o : HO}, B.H b = some o → (∀ i x, B.pa i = some x → ¬ Foot B.H x b) → ¬ S b := fun {b o} h1 h2 z => by
    rcases sP z with ⟨_, k1, k2⟩ | ⟨_, _, k2⟩
    · exact h2 i a k1 k2
    · rw [k2] at h1; cases h1
  have hil : i < ρ2.length := (List.getElem?_eq_some_iff.mp hno).1
  refine ⟨fun b o h1 h2 => ?_, fun b h => ?_, fun b h => q.sub b (.inl h), fun b h => ?_, q.trk, by simp [q.len], fun j t hj => ?_, fun j k t u b c x ne h1 h2 o1 o2 v1 v2 f1 f2 => ?_, fun p hp => ?_⟩
  · have n := pA h1 h2
    refine q.keep b o ((hb2 n).trans h1) fun j x hj f => ?_
    obtain ⟨p1, n1⟩ := pa1 hj
    exact h2 j x p1 ((ft p1 n1).mp f)
  · refine q.old b ?_
    show HB b ≠ none
    by_cases z : S b
    · rw [hb1 z]; exact r.old b h
    · rw [hb2 z]; exact h
  · rcases q.new b h with z | z
    · rcases z with z | z
      · exact .inl z
      · exact r.new b (sM z)
    · refine .inr ?_
      have z : HB b = none := z
      by_cases zS : S b
      · rw [hb1 zS] at z
        exact absurd z (sN zS)
      · rw [hb2 zS] at z; exact z
  · rcases set_cases hj with ⟨rfl, rfl, _⟩ | ⟨ne, hj⟩
    · exact (r.slot j s hi).ext x2 fun b c _ eb f mc => by
        rw [e1] at eb
        cases eb
        exact ⟨q.sub c (.inr (sF f)), wf f⟩
    · have qs := q.slot j t hj
      cases t with
      | no => trivial
      | v d => exact qs
      | o d =>
        obtain ⟨b, q1, q2, q3⟩ := qs
        refine ⟨b, q1, q2, fun c f => ?_⟩
        have z : HB c = none := q3 c f
        by_cases zS : S c
        · rw [hb1 zS] at z
          exact absurd z (sN zS)
        · rw [hb2 zS] at z; exact z
      | p d =>
        obtain ⟨b, q1, q2, q3, q4⟩ := qs
        obtain ⟨p1, n1⟩ := pa1 q3
        exact ⟨b, q1, q2, p1, fun c f => (ft p1 n1).mp (q4 c f)⟩
  · have other : ∀ {j : Nat} {t : Slot} {b : Addr}, ρ2[j]? = some t → isOwn t = true → σ[j]? = some (some (V.ref b)) → Foot H2 b x → ¬ S x := fun {j t b} hj ht hb f z => by
      obtain ⟨dj, wj, kj⟩ := q.ownAt hj ht hb
      rcases kj with ⟨_, kj⟩ | ⟨_, kj, kj2⟩
      · have y : HB x = none := kj x f
        rw [hb1 z] at y
        exact sN z y
      · obtain ⟨p1, n1⟩ := pa1 kj
        exact s3 p1 n1 ((ft p1 n1).mp (kj2 x f)) z
    rcases set_cases h1 with ⟨rfl, rfl, _⟩ | ⟨_, g1⟩
    · rw [hv] at v1
      cases v1
      rcases set_cases h2 with ⟨rfl, rfl, _⟩ | ⟨_, g2⟩
      · exact ne rfl
      · exact other g2 o2 v2 f2 (sF (fA f1))
    · rcases set_cases h2 with ⟨rfl, rfl, _⟩ | ⟨_, g2⟩
      · rw [hv] at v2
        cases v2
        exact other g1 o1 v1 f1 (sF (fA f2))
      · exact q.apart j k t u b c x ne g1 g2 o1 o2 v1 v2 f1 f2
  · obtain ⟨p1, p2, p3, p4⟩ := q.pr p hp
    refine ⟨p1, p2, fun j t b hj ht hb f => ?_, (r.pr p hp).2.2.2⟩
    rcases set_cases hj with ⟨rfl, rfl, _⟩ | ⟨_, hj⟩
    · rw [hv] at hb
      cases hb
      exact prN p hp (sF (fA f))
    · exact p3 j t b hj ht hb f
end
section
variable {X : Cx} {W : WX}
end
end NV

set_option Elab.async false
set_option linter.all false
set_option maxRecDepth 100000
set_option maxHeartbeats 4000000
namespace NV
open PySem PySem.Spec PyProof.Rows L2
section
variable {K : PySem.W.Frag} {B : Base} {M : Addr → Prop} {H : Hp} {ρ : Env} {σ : St} {d : D} {a : Addr}
end
/-- values, and what is new and owned by no slot -/
def RelP (K : PySem.W.Frag) (B : Base) (σ : St) (M : Addr → Prop) (H : Hp) (ρ : Env) : List Bool → List D → List V → Prop
  | [], [], [] => True
  | false :: ks, d :: ds, v :: vs => Rp K M H d v ∧ RelP K B σ M H ρ ks ds vs
  | true :: ks, d :: ds, v :: vs => (∃ a, v = .ref a ∧ Ow K M H d a ∧ (∀ c, Foot H a c → B.H c = none) ∧ (∀ c, Foot H a c → Anon H ρ σ c) ∧ (∀ c, Foot H a c → ∀ p ∈ B.pr, p.1 ≠ c) ∧
      ∀ (k : Nat) (a' : Addr), ks[k]? = some true → vs[k]? = some (.ref a') → ∀ c, Foot H a c → Foot H a' c → False) ∧ RelP K B σ M H ρ ks ds vs
  | _, _, _ => False
section
variable {X : Cx} {W : WX} {e : Expr} {es : List Expr} {ks : List Bool} {m : EM} {ms : Env → Res (List D)}
theorem RelP.base {K : PySem.W.Frag} {B B2 : Base} {σ : St} {M : Addr → Prop} {H : Hp} {ρ : Env} (hH : B2.H = B.H) (hp : ∀ p ∈ B.pr, p ∈ B2.pr) : ∀ {ks : List Bool} {ds : List D} {vs : List V}, RelP K B2 σ M H ρ ks ds vs → RelP K B σ M H ρ ks ds vs
  | [], [], [], _ => trivial
  | false :: ks, d :: ds, v :: vs, h => ⟨h.1, RelP.base hH hp h.2⟩
  | true :: ks, d :: ds, v :: vs, h => by
    obtain ⟨⟨a, e, w, h1, h2, h3, h4⟩, h5⟩ := h
    exact ⟨⟨a, e, w, fun c f => by rw [← hH]; exact h1 c f, h2, fun c f p hm => h3 c f p (hp p hm), h4⟩, RelP.base hH hp h5⟩
theorem RelP.own {K : PySem.W.Frag} {B : Base} {σ : St} {M : Addr → Prop} {H : Hp} {ρ : Env} : ∀ {ks : List Bool} {ds : List D} {vs : List V} {k : Nat} {a' : Addr}, RelP K B σ M H ρ ks ds vs → ks[k]? = some true → vs[k]? = some (.ref a') → ∀ c, Foot H a' c → ∀ p ∈ B.pr, p.1 ≠ c
  | [], _, _, k, _, _, h, _ => by simp at h
  | b :: ks, [], _, _, _, h, _, _ => by cases b <;> exact h.elim
  | b :: ks, _ :: _, [], _, _, h, _, _ => by cases b <;> exact h.elim
  | true :: ks, d :: ds, v :: vs, 0, a', h, _, hv => by
    obtain ⟨⟨a, e, w, h1, h2, h3, h4⟩, h5⟩ := h
    have hv : v = .ref a' := by simpa using hv
    rw [e] at hv
    cases hv
    exact h3
  | false :: ks, d :: ds, v :: vs, 0, a', h, hk, _ => by simp at hk
  | true :: ks, d :: ds, v :: vs, k + 1, a', h, hk, hv => RelP.own (k := k) h.2 (by simpa using hk) (by simpa using hv)
  | false :: ks, d :: ds, v :: vs, k + 1, a', h, hk, hv => RelP.own (k := k) h.2 (by simpa using hk) (by simpa using hv)
theorem RelP.len {K : PySem.W.Frag} {B : Base} {σ : St} {M : Addr → Prop} {H : Hp} {ρ : Env} : ∀ {ks : List Bool} {ds : List D} {vs : List V}, RelP K B σ M H ρ ks ds vs → vs.length = ks.length
  | [], [], [], _ => rfl
  | false :: ks, d :: ds, v :: vs, h => by simp [RelP.len h.2]
  | true :: ks, d :: ds, v :: vs, h => by simp [RelP.len h.2]
end
end NV

set_option Elab.async false
set_option linter.all false
set_option maxRecDepth 100000
set_option maxHeartbeats 4000000
namespace NV
open PySem PySem.Spec PyProof.Rows L2

def ntB (K : PySem.W.Frag) : Bool := (He.Fa.glo "NoText").ok K && (oexB "NoText" K && (decide (PySem.W.findIn K (.ref (He.ga K "NoText")) "row" = some none) && (xfB K (He.ga K "NoText") && ((He.Fa.meth "NoText" "__init__").ok K && ((He.Fa.exm "NoText" "NoText" true).ok K && teB "TurnError" K)))))
end NV

set_option Elab.async false
set_option linter.all false
set_option maxRecDepth 100000
set_option maxHeartbeats 4000000
namespace NV
open PySem PySem.Spec PyProof.Rows L2
def lookS (n : Nat) (fa : List He.Fa) (xs : List (PySem.W.Frag → Bool)) (fn : List He.DefD) (g : Addr → Option Obj) : Bool × He.AlD := seesN fa xs fn (He.frG g (He5.asA g n))
def hookS (n : Nat) (fa : List He.Fa) (xs : List (PySem.W.Frag → Bool)) (fn : List He.DefD) : PySem.W.Hook where
  α := Bool × He.AlD
  obs := fun st => lookS n fa xs fn st.heap.get?
  val := fun _ => (true, He.valD fn)
  says := fun _ g => ∃ K : PySem.W.Frag, K.In g ∧ saysN fa xs fn K
  of := fun _ _ e => ⟨_, He.frG_in, e⟩
  keeps := fun _ _ _ ⟨K, hK, c⟩ k => ⟨K, PySem.W.Frag.In.keeps hK k, c⟩
theorem lookS_eq {n : Nat} {fa : List He.Fa} {xs : List (PySem.W.Frag → Bool)} {fn : List He.DefD} {g : Addr → Option Obj} {st : Shared} (h : ∀ a, g a = st.heap.get? a) : lookS n fa xs fn g = (hookS n fa xs fn).obs st := by
  have e : g = st.heap.get? := funext h
  rw [e]
  rfl
theorem runEq_ofS {r : PySem.W.OpenRow} {q : Program} {n M : Nat} {loose : List Str} {w : World} {fa : List He.Fa} {xs : List (PySem.W.Frag → Bool)} {fn : List He.DefD}
    (h1 : ∀ os, (runS r M w os).map (fun s => HandSHeadRun.looksF r.prog (PySem.W.boot_heap w.params) s.abs) = some true)
    (h2 : ∀ os, (runS r M w os).map (fun s => HandSHeadRun.seenQ q loose (importedModules r.prog.main.body) (fun s => PySem.W.xlAt q [] s && PySem.W.recOk r.records s) s.abs) = some (PySem.W.openGood q loose))
    (h3 : ∀ os, (runS r M w os).map (fun s => lookS n fa xs fn (HandSHeadRun.getT s)) = some (true, He.valD fn)) :
    HandSHeadRun.RunEq r q (hookS n fa xs fn) (fun s => lookS n fa xs fn (HandSHeadRun.getT s)) M loose w := by
  intro os
  have h1 := h1 os
  have h2 := h2 os
  have h3 := h3 os
  show (runS r M w os).map _ = _
  cases ho : runS r M w os with
  | none => rw [ho] at h1; cases h1
  | some s =>
    rw [ho] at h1 h2 h3
    injection h1 with h1
    injection h2 with h2
    injection h3 with h3
    have h1 : HandSHeadRun.looksF r.prog (PySem.W.boot_heap w.params) s.abs = true := h1
    have h2 : HandSHeadRun.seenQ q loose (importedModules r.prog.main.body) (fun s => PySem.W.xlAt q [] s && PySem.W.recOk r.records s) s.abs = PySem.W.openGood q loose := h2
    have h3 : lookS n fa xs fn (HandSHeadRun.getT s) = (true, He.valD fn) := h3
    show some (HandSHeadRun.looksF r.prog (PySem.W.boot_heap w.params) s.abs, HandSHeadRun.seenQ q loose (importedModules r.prog.main.body) (fun s => PySem.W.xlAt q [] s && PySem.W.recOk r.records s) s.abs, lookS n fa xs fn (HandSHeadRun.getT s)) = some (true, PySem.W.openGood q loose, (true, He.valD fn))
    rw [h1, h2, h3]
end NV

set_option Elab.async false
set_option linter.all false
set_option maxRecDepth 100000
set_option maxHeartbeats 4000000
namespace NV
open PySem PySem.Spec PyProof.Rows L2
def top (i : Nat) : Stmt := PySem.Challenge.pw_neversoon_k06_texts_of_no_rules.main.body.getD i (.Pass ⟨0, 0, 0, 0⟩)
def mtd (i j : Nat) : Stmt := match top i with
  | .ClassDef _ _ _ body _ _ _ _ _ _ _ => body.getD j (.Pass ⟨0, 0, 0, 0⟩)
  | _ => .Pass ⟨0, 0, 0, 0⟩
abbrev S_nt : Stmt := mtd 3 0
abbrev CSnames : List Str := ["NoRules", "NoText"]
abbrev TSnames : List Str := []
abbrev S_is_whole : Stmt := top 5
abbrev S_is_name : Stmt := top 10
abbrev S_shown_rule : Stmt := top 28
abbrev S_number_in : Stmt := top 30
abbrev S_days_in : Stmt := top 31
abbrev S__law_cell : Stmt := top 35
abbrev S__law_purse : Stmt := top 36
abbrev S__law_pick : Stmt := top 37
abbrev S__law_row : Stmt := top 43
abbrev S__law_figures : Stmt := top 44
abbrev S__law_kind_in : Stmt := top 45
abbrev S_is_kind : Stmt := top 11
abbrev S_is_between : Stmt := top 18
abbrev S_rule_in : Stmt := top 32
abbrev S__law_any_name : Stmt := top 38
abbrev S__law_number : Stmt := top 40
abbrev S__law_days_in : Stmt := top 46
abbrev S__law_words_in : Stmt := top 47
abbrev S__law_sign_amiss : Stmt := top 52
abbrev S__law_word_amiss : Stmt := top 53
abbrev S__law_row_amiss : Stmt := top 54
abbrev S_are_words : Stmt := top 19
abbrev S_are_days : Stmt := top 20
abbrev S_are_hours : Stmt := top 21
abbrev S__law_kind : Stmt := top 39
abbrev S__law_parts_in : Stmt := top 48
abbrev S__law_amiss : Stmt := top 55
abbrev S_is_rule : Stmt := top 22
abbrev S__law_rule : Stmt := top 41
abbrev S__law_due : Stmt := top 49
abbrev S_is_rules : Stmt := top 23
abbrev S__law_rules : Stmt := top 42
abbrev S_check_rules : Stmt := top 24
abbrev S_read_rules : Stmt := top 33
abbrev S_show_rules : Stmt := top 29
abbrev S__law_told : Stmt := top 50
abbrev S__law_right : Stmt := top 51
abbrev S_law : Stmt := top 56
end NV

set_option Elab.async false
set_option linter.all false
set_option maxRecDepth 100000
set_option maxHeartbeats 0
namespace NV
open PySem PySem.Spec PyProof.Rows L2
def d_is_whole : He.DefD := ⟨("is_whole", none), "is_whole", "is_whole", defArgs S_is_whole, defBody S_is_whole, defScope S_is_whole, [], []⟩
def d_is_name : He.DefD := ⟨("is_name", none), "is_name", "is_name", defArgs S_is_name, defBody S_is_name, defScope S_is_name, [], []⟩
def d_shown_rule : He.DefD := ⟨("shown_rule", none), "shown_rule", "shown_rule", defArgs S_shown_rule, defBody S_shown_rule, defScope S_shown_rule, [], []⟩
def d_number_in : He.DefD := ⟨("number_in", none), "number_in", "number_in", defArgs S_number_in, defBody S_number_in, defScope S_number_in, [], []⟩
def d_days_in : He.DefD := ⟨("days_in", none), "days_in", "days_in", defArgs S_days_in, defBody S_days_in, defScope S_days_in, [], []⟩
def d__law_cell : He.DefD := ⟨("_law_cell", none), "_law_cell", "_law_cell", defArgs S__law_cell, defBody S__law_cell, defScope S__law_cell, [], []⟩
def d__law_purse : He.DefD := ⟨("_law_purse", none), "_law_purse", "_law_purse", defArgs S__law_purse, defBody S__law_purse, defScope S__law_purse, [], []⟩
def d__law_pick : He.DefD := ⟨("_law_pick", none), "_law_pick", "_law_pick", defArgs S__law_pick, defBody S__law_pick, defScope S__law_pick, [], []⟩
def d__law_row : He.DefD := ⟨("_law_row", none), "_law_row", "_law_row", defArgs S__law_row, defBody S__law_row, defScope S__law_row, [], []⟩
def d__law_figures : He.DefD := ⟨("_law_figures", none), "_law_figures", "_law_figures", defArgs S__law_figures, defBody S__law_figures, defScope S__law_figures, [], []⟩
def d__law_kind_in : He.DefD := ⟨("_law_kind_in", none), "_law_kind_in", "_law_kind_in", defArgs S__law_kind_in, defBody S__law_kind_in, defScope S__law_kind_in, [], []⟩
def d_is_kind : He.DefD := ⟨("is_kind", none), "is_kind", "is_kind", defArgs S_is_kind, defBody S_is_kind, defScope S_is_kind, [], []⟩
def d_is_between : He.DefD := ⟨("is_between", none), "is_between", "is_between", defArgs S_is_between, defBody S_is_between, defScope S_is_between, [], []⟩
def d_rule_in : He.DefD := ⟨("rule_in", none), "rule_in", "rule_in", defArgs S_rule_in, defBody S_rule_in, defScope S_rule_in, [], []⟩
def d__law_any_name : He.DefD := ⟨("_law_any_name", none), "_law_any_name", "_law_any_name", defArgs S__law_any_name, defBody S__law_any_name, defScope S__law_any_name, [], []⟩
def d__law_number : He.DefD := ⟨("_law_number", none), "_law_number", "_law_number", defArgs S__law_number, defBody S__law_number, defScope S__law_number, [], []⟩
def d__law_days_in : He.DefD := ⟨("_law_days_in", none), "_law_days_in", "_law_days_in", defArgs S__law_days_in, defBody S__law_days_in, defScope S__law_days_in, [], []⟩
def d__law_words_in : He.DefD := ⟨("_law_words_in", none), "_law_words_in", "_law_words_in", defArgs S__law_words_in, defBody S__law_words_in, defScope S__law_words_in, [], []⟩
def d__law_sign_amiss : He.DefD := ⟨("_law_sign_amiss", none), "_law_sign_amiss", "_law_sign_amiss", defArgs S__law_sign_amiss, defBody S__law_sign_amiss, defScope S__law_sign_amiss, [], []⟩
def d__law_word_amiss : He.DefD := ⟨("_law_word_amiss", none), "_law_word_amiss", "_law_word_amiss", defArgs S__law_word_amiss, defBody S__law_word_amiss, defScope S__law_word_amiss, [], []⟩
def d__law_row_amiss : He.DefD := ⟨("_law_row_amiss", none), "_law_row_amiss", "_law_row_amiss", defArgs S__law_row_amiss, defBody S__law_row_amiss, defScope S__law_row_amiss, [], []⟩
def d_are_words : He.DefD := ⟨("are_words", none), "are_words", "are_words", defArgs S_are_words, defBody S_are_words, defScope S_are_words, [], []⟩
def d_are_days : He.DefD := ⟨("are_days", none), "are_days", "are_days", defArgs S_are_days, defBody S_are_days, defScope S_are_days, [], []⟩
def d_are_hours : He.DefD := ⟨("are_hours", none), "are_hours", "are_hours", defArgs S_are_hours, defBody S_are_hours, defScope S_are_hours, [], []⟩
def d__law_kind : He.DefD := ⟨("_law_kind", none), "_law_kind", "_law_kind", defArgs S__law_kind, defBody S__law_kind, defScope S__law_kind, [], []⟩
def d__law_parts_in : He.DefD := ⟨("_law_parts_in", none), "_law_parts_in", "_law_parts_in", defArgs S__law_parts_in, defBody S__law_parts_in, defScope S__law_parts_in, [], []⟩
def d__law_amiss : He.DefD := ⟨("_law_amiss", none), "_law_amiss", "_law_amiss", defArgs S__law_amiss, defBody S__law_amiss, defScope S__law_amiss, [], []⟩
def d_is_rule : He.DefD := ⟨("is_rule", none), "is_rule", "is_rule", defArgs S_is_rule, defBody S_is_rule, defScope S_is_rule, [], []⟩
def d__law_rule : He.DefD := ⟨("_law_rule", none), "_law_rule", "_law_rule", defArgs S__law_rule, defBody S__law_rule, defScope S__law_rule, [], []⟩
def d__law_due : He.DefD := ⟨("_law_due", none), "_law_due", "_law_due", defArgs S__law_due, defBody S__law_due, defScope S__law_due, [], []⟩
def d_is_rules : He.DefD := ⟨("is_rules", none), "is_rules", "is_rules", defArgs S_is_rules, defBody S_is_rules, defScope S_is_rules, [], []⟩
def d__law_rules : He.DefD := ⟨("_law_rules", none), "_law_rules", "_law_rules", defArgs S__law_rules, defBody S__law_rules, defScope S__law_rules, [], []⟩
def d_check_rules : He.DefD := ⟨("check_rules", none), "check_rules", "check_rules", defArgs S_check_rules, defBody S_check_rules, defScope S_check_rules, [], []⟩
def d_read_rules : He.DefD := ⟨("read_rules", none), "read_rules", "read_rules", defArgs S_read_rules, defBody S_read_rules, defScope S_read_rules, [], []⟩
def d_show_rules : He.DefD := ⟨("show_rules", none), "show_rules", "show_rules", defArgs S_show_rules, defBody S_show_rules, defScope S_show_rules, [], []⟩
def d__law_told : He.DefD := ⟨("_law_told", none), "_law_told", "_law_told", defArgs S__law_told, defBody S__law_told, defScope S__law_told, [], []⟩
def d__law_right : He.DefD := ⟨("_law_right", none), "_law_right", "_law_right", defArgs S__law_right, defBody S__law_right, defScope S__law_right, [], []⟩
def d_law : He.DefD := ⟨("law", none), "law", "law", defArgs S_law, defBody S_law, defScope S_law, [], []⟩
def d_nt : He.DefD := ⟨("NoText", some "__init__"), "__init__", "NoText.__init__", defArgs S_nt, defBody S_nt, defScope S_nt, [], []⟩
def fnL : List He.DefD := [d_is_whole, d_is_name, d_shown_rule, d_number_in, d_days_in, d__law_cell, d__law_purse, d__law_pick, d__law_row, d__law_figures, d__law_kind_in, d_is_kind, d_is_between, d_rule_in, d__law_any_name, d__law_number, d__law_days_in, d__law_words_in, d__law_sign_amiss, d__law_word_amiss, d__law_row_amiss, d_are_words, d_are_days, d_are_hours, d__law_kind, d__law_parts_in, d__law_amiss, d_is_rule, d__law_rule, d__law_due, d_is_rules, d__law_rules, d_check_rules, d_read_rules, d_show_rules, d__law_told, d__law_right, d_law, d_nt]
def faHk : List He.Fa := [.glo "is_whole", .glo "is_name", .glo "shown_rule", .glo "number_in", .glo "days_in", .glo "_law_cell", .glo "_law_purse", .glo "_law_pick", .glo "_law_row", .glo "_law_figures", .glo "_law_kind_in", .glo "is_kind", .glo "is_between", .glo "rule_in", .glo "_law_any_name", .glo "_law_number", .glo "_law_days_in", .glo "_law_words_in", .glo "_law_sign_amiss", .glo "_law_word_amiss", .glo "_law_row_amiss", .glo "are_words", .glo "are_days", .glo "are_hours", .glo "_law_kind", .glo "_law_parts_in", .glo "_law_amiss", .glo "is_rule", .glo "_law_rule", .glo "_law_due", .glo "is_rules", .glo "_law_rules", .glo "check_rules", .glo "read_rules", .glo "show_rules", .glo "_law_told", .glo "_law_right", .glo "law", .free "isinstance", .free "bool", .free "int", .free "all", .free "len", .free "str", .free "tuple", .free "range", .free "sorted", .free "set", .free "enumerate", .free "min", .free "max", .str "LETTERS" "abcdefghijklmnopqrstuvwxyz", .int "MOST_LETTERS" 8, .str "FIGURES" "0123456789", .int "MOST_FIGURES" 5, .glo "WIDE", .int "MOST_WORDS" 8, .int "MOST_SPAN" 99999, .int "MOST_MANY" 99, .int "MOST_RULES" 12, .glo "ONCE"]
def xsL : List (PySem.W.Frag → Bool) := [tupS "WIDE" ["any", "fresh"], tupS "ONCE" ["fresh", "wheel"], clsfB CSnames TSnames, ntB]
abbrev R : PySem.W.OpenRow := PySem.W.OpenLaw.row PySem.Challenge.rw_neversoon_k06_texts_of_no_rules
abbrev hk : PySem.W.Hook := hookS 4 faHk xsL fnL
def ob (s : PySem.W.SharedT) : Bool × He.AlD := lookS 4 faHk xsL fnL (HandSHeadRun.getT s)
theorem ob_eq (s : PySem.W.SharedT) : ob s = hk.obs s.abs := lookS_eq (HandSHeadRun.getT_eq s)
theorem r_looks (w : World) (os : OsState) : (runS R 12000 w os).map (fun s => HandSHeadRun.looksF R.prog (PySem.W.boot_heap w.params) s.abs) = some true := by kernel_rfl
theorem r_seen (w : World) (os : OsState) : (runS R 12000 w os).map (fun s => HandSHeadRun.seenQ (PySem.W.view R.prog [56]) ((["TurnError", "NoRules", "NoText", "is_whole", "LETTERS", "MOST_LETTERS", "WIDE", "is_name", "is_kind", "MOST_RULES", "MOST_SPAN", "MOST_MANY", "MOST_WORDS", "ONCE", "is_between", "are_words", "are_days", "are_hours", "is_rule", "is_rules", "check_rules", "FIGURES", "MOST_FIGURES", "shown_rule"] : List Str) ++ (["show_rules", "number_in", "days_in", "rule_in", "read_rules", "_law_cell", "_law_purse", "_law_pick", "_law_any_name", "_law_kind", "_law_number", "_law_rule", "_law_rules", "_law_row", "_law_figures", "_law_kind_in", "_law_days_in", "_law_words_in", "_law_parts_in", "_law_due", "_law_told", "_law_right", "_law_sign_amiss", "_law_word_amiss"] : List Str) ++ (["_law_row_amiss", "_law_amiss"] : List Str)) (importedModules R.prog.main.body) (fun s => PySem.W.xlAt (PySem.W.view R.prog [56]) [] s && PySem.W.recOk R.records s) s.abs) = some (PySem.W.openGood (PySem.W.view R.prog [56]) ((["TurnError", "NoRules", "NoText", "is_whole", "LETTERS", "MOST_LETTERS", "WIDE", "is_name", "is_kind", "MOST_RULES", "MOST_SPAN", "MOST_MANY", "MOST_WORDS", "ONCE", "is_between", "are_words", "are_days", "are_hours", "is_rule", "is_rules", "check_rules", "FIGURES", "MOST_FIGURES", "shown_rule"] : List Str) ++ (["show_rules", "number_in", "days_in", "rule_in", "read_rules", "_law_cell", "_law_purse", "_law_pick", "_law_any_name", "_law_kind", "_law_number", "_law_rule", "_law_rules", "_law_row", "_law_figures", "_law_kind_in", "_law_days_in", "_law_words_in", "_law_parts_in", "_law_due", "_law_told", "_law_right", "_law_sign_amiss", "_law_word_amiss"] : List Str) ++ (["_law_row_amiss", "_law_amiss"] : List Str))) := by kernel_rfl
theorem r_ob (w : World) (os : OsState) : (runS R 12000 w os).map (fun s => lookS 4 faHk xsL fnL (HandSHeadRun.getT s)) = some (true, He.valD fnL) := by kernel_rfl
theorem run (w : World) : HandSHeadRun.RunEq R (PySem.W.view R.prog [56]) hk ob 12000 ((["TurnError", "NoRules", "NoText", "is_whole", "LETTERS", "MOST_LETTERS", "WIDE", "is_name", "is_kind", "MOST_RULES", "MOST_SPAN", "MOST_MANY", "MOST_WORDS", "ONCE", "is_between", "are_words", "are_days", "are_hours", "is_rule", "is_rules", "check_rules", "FIGURES", "MOST_FIGURES", "shown_rule"] : List Str) ++ (["show_rules", "number_in", "days_in", "rule_in", "read_rules", "_law_cell", "_law_purse", "_law_pick", "_law_any_name", "_law_kind", "_law_number", "_law_rule", "_law_rules", "_law_row", "_law_figures", "_law_kind_in", "_law_days_in", "_law_words_in", "_law_parts_in", "_law_due", "_law_told", "_law_right", "_law_sign_amiss", "_law_word_amiss"] : List Str) ++ (["_law_row_amiss", "_law_amiss"] : List Str)) w := runEq_ofS (r_looks w) (r_seen w) (r_ob w)
end NV

set_option Elab.async false
set_option linter.all false
set_option maxRecDepth 100000
set_option maxHeartbeats 4000000
/-! Core1: data, its representation, environments. -/
namespace NV
open PySem PySem.Spec PyProof.Rows L2

theorem Ext.refl {M : Addr → Prop} {H : Hp} : Ext M H M H := fun _ _ e _ => ⟨e, fun n => n⟩
theorem SqS.sql {K : PySem.W.Frag} {H : Hp} {a : Addr} {xs : List Int} (h : SqS K H a xs) : SqL K H a (xs.map V.int) := by
  rcases h with ⟨o, h⟩ | h
  · exact .inl (.inr ⟨o, h⟩)
  · exact .inr h

section
variable {K : PySem.W.Frag} {M M' : Addr → Prop} {H H' : Hp}
/-- a new object that is owned -/
theorem Ext.newO {p : Addr} {o : HO} (hp : H p = none) : Ext M H (fun b => M b ∨ b = p) (upd H p o) := fun b u e _ =>
  ⟨by rw [upd_ne (ne_of_none e hp)]; exact e, fun n z => z.elim n fun q => ne_of_none e hp q⟩
/-- an owned object is written -/
theorem Ext.write {a : Addr} {o u : HO} (h : M a) (e : H a = some u) (i : ¬ Imm u) : Ext M H M (upd H a o) := fun b q eb hb => by
  have nb : b ≠ a := fun z => by
    subst z
    rw [e] at eb; cases eb
    exact hb.elim (fun n => n h) i
  exact ⟨by rw [upd_ne nb]; exact eb, fun n => n⟩

theorem RpL.get : ∀ {ds : List D} {vs : List V} {i : Nat} {d : D}, RpL K M H ds vs → ds[i]? = some d → ∃ v, vs[i]? = some v ∧ Rp K M H d v
  | [], _, i, _, h, e => by simp at e
  | x :: ds, _, 0, d, h, e => by
    cases h with
    | cons h1 h2 =>
      simp at e; subst e
      exact ⟨_, rfl, h1⟩
  | x :: ds, _, i + 1, d, h, e => by
    cases h with
    | cons h1 h2 =>
      obtain ⟨v, q, r⟩ := RpL.get (i := i) h2 (by simpa using e)
      exact ⟨v, by simpa using q, r⟩
theorem RpL.append : ∀ {ds es : List D} {vs ws : List V}, RpL K M H ds vs → RpL K M H es ws → RpL K M H (ds ++ es) (vs ++ ws)
  | [], _, _, _, h, g => by cases h; exact g
  | d :: ds, _, _, _, h, g => by
    cases h with
    | cons h1 h2 => exact .cons h1 (RpL.append h2 g)
theorem RpL.take : ∀ {ds : List D} {vs : List V} (n : Nat), RpL K M H ds vs → RpL K M H (ds.take n) (vs.take n)
  | [], _, n, h => by cases h; simp; exact .nil
  | d :: ds, _, 0, h => by simp; exact .nil
  | d :: ds, _, n + 1, h => by
    cases h with
    | cons h1 h2 => exact .cons h1 (RpL.take n h2)
theorem RpL.reverse : ∀ {ds : List D} {vs : List V}, RpL K M H ds vs → RpL K M H ds.reverse vs.reverse
  | [], _, h => by cases h; exact .nil
  | x :: ds, _, h => by
    cases h with
    | cons h1 h2 =>
      simp only [List.reverse_cons]
      exact RpL.append (RpL.reverse h2) (.cons h1 .nil)
end

/-! ### environments -/
section
variable {K : PySem.W.Frag} {M M' : Addr → Prop} {H H' : Hp} {d : D} {a c : Addr}
/-- where the object is as it was -/
theorem Ow.foot_eq (h : Ow K M H d a) (k : ∀ o, H a = some o → H' a = some o) (f : Foot H' a c) : Foot H a c := by
  obtain ⟨o, e, _⟩ := h.there
  exact f.of_eq ((k o e).trans e.symm)
end

section
variable {K : PySem.W.Frag} {B : Base} {M M' : Addr → Prop} {H H' : Hp} {ρ ρ' : Env} {σ σ' : St}
theorem Anon.mono (an : Anon H ρ σ c) (h : ∀ (i : Nat) (s : Slot) (a : Addr), ρ'[i]? = some s → isOwn s = true → σ'[i]? = some (some (V.ref a)) → ∃ s', ρ[i]? = some s' ∧ isOwn s' = true ∧ σ[i]? = some (some (V.ref a)) ∧ (Foot H' a c → Foot H a c)) : Anon H' ρ' σ' c :=
  fun i s a hi ho hv f => by
    obtain ⟨s', h1, h2, h3, h4⟩ := h i s a hi ho hv
    exact an i s' a h1 h2 h3 (h4 f)
/-- the heap has grown, nothing that was owned is changed -/
theorem Rep.grow (r : Rep K B M H ρ σ) (e : Ext M H M' H') (hs : ∀ b o, H b = some o → H' b = some o) (hm : ∀ b, M b → M' b) (hn : ∀ b, M' b → M b ∨ H b = none) (ht : ∀ b, M' b → H' b ≠ none) : Rep K B M' H' ρ σ :=
  r.change (fun b o _ _ q => hs b o q) (fun b h => by
    cases q : H b with
    | none => exact absurd q h
    | some o => rw [hs b o q]; simp) hm hn ht rfl (fun p _ q => hs _ _ q) (fun i s h => ⟨(r.slot i s h).ext e fun a c _ _ _ m => ⟨hm c m, by
      cases q : H c with
      | none => exact absurd q (r.trk c m)
      | some o => exact hs c o q⟩, s, h, rfl⟩) fun i s a c h o hv f => by
    obtain ⟨d, w, _⟩ := r.ownAt h o hv
    exact w.foot_eq (fun o q => hs a o q) f
/-- a new object, not owned -/
theorem Rep.alloc (r : Rep K B M H ρ σ) {p : Addr} {o : HO} (hp : H p = none) : Rep K B M (upd H p o) ρ σ :=
  r.grow (Ext.new hp) (fun b u e => by rw [upd_ne (ne_of_none e hp)]; exact e) (fun _ h => h) (fun _ h => .inl h) fun b h z => by
    have n := r.trk b h
    by_cases e : b = p
    · rw [e] at n; exact n hp
    · rw [upd_ne e] at z; exact n z
/-- a new object, owned -/
theorem Rep.allocO (r : Rep K B M H ρ σ) {p : Addr} {o : HO} (hp : H p = none) : Rep K B (fun b => M b ∨ b = p) (upd H p o) ρ σ :=
  r.grow (Ext.newO hp) (fun b u e => by rw [upd_ne (ne_of_none e hp)]; exact e) (fun _ h => .inl h) (fun b h => h.imp id fun e => by rw [e]; exact hp) fun b h z => by
    by_cases e : b = p
    · rw [e, upd_same] at z; cases z
    · rw [upd_ne e] at z
      exact h.elim (fun q => r.trk b q z) e
/-- what belongs to a slot's object is tracked -/
theorem Rep.own_ne (r : Rep K B M H ρ σ) {i : Nat} {s : Slot} {a c p : Addr} (_h : ρ[i]? = some s) (_o : isOwn s = true) (hv : σ[i]? = some (some (V.ref a))) (f : Foot H a c) (hp : H p = none) : c ≠ p := fun e => by
  obtain ⟨d, w, _⟩ := r.ownAt _h _o hv
  obtain ⟨_, o, q, _⟩ := w.foot f
  rw [e, hp] at q
  cases q
/-- what belongs to slot i's object is written -/
theorem Rep.mutateF (r : Rep K B M H ρ σ) {i : Nat} {s s' : Slot} {a e : Addr} {u : HO} {d' : D} (hi : ρ[i]? = some s) (ho : isOwn s = true) (hv : σ[i]? = some (some (V.ref a)))
    (he : Foot H a e) (hw : Ow K M (upd H e u) d' a) (hs : s' = reSlot s d') (hfu : ∀ c, Foot (upd H e u) a c → Foot H a c) : Rep K B M (upd H e u) (ρ.set i s') σ := by
  obtain ⟨d, w, k⟩ := r.ownAt hi ho hv
  obtain ⟨mE, o0, q0, im⟩ := w.foot he
  have hx : Ext M H M (upd H e u) := Ext.write mE q0 im
  have other : ∀ (j : Nat) (t : Slot) (b c : Addr), j ≠ i → ρ[j]? = some t → isOwn t = true → σ[j]? = some (some (V.ref b)) → Foot H b c → c ≠ e := fun j t b c ne hj ot hb f z => by
    subst z
    exact r.apart j i t s b a c ne hj hi ot ho hb hv f he
  have feet : ∀ (j : Nat) (t : Slot) (b c : Addr), ρ[j]? = some t → isOwn t = true → σ[j]? = some (some (V.ref b)) → Foot (upd H e u) b c → Foot H b c := fun j t b c hj ot hb f => by
    by_cases z : j = i
    · subst z
      rw [hv] at hb
      cases hb
      exact hfu c f
    · exact f.of_eq (upd_ne (other j t b b z hj ot hb .self))
  refine r.change (fun b o h1 h2 h3 => ?_) (fun b h => ?_) (fun _ h => h) (fun _ h => .inl h) (fun b h => ?_) (by simp) (fun p hp q => ?_) (fun j t hj => ?_) feet
  · have nb : b ≠ e := fun z => by
      subst z
      rcases k with ⟨_, k⟩ | ⟨_, k, k2⟩
      · rw [k b he] at h1; cases h1
      · exact h2 i a k (k2 b he)
    rw [upd_ne nb]; exact h3
  · by_cases z : b = e
    · rw [z, upd_same]; simp
    · rw [upd_ne z]; exact h
  · by_cases z : b = e
    · rw [z, upd_same]; simp
    · rw [upd_ne z]; exact r.trk b h
  · rw [upd_ne fun z => (r.pr p hp).2.2.1 i s a hi ho hv (by rw [z]; exact he)]
    exact q
  · by_cases z : j = i
    · subst z
      have hlt : j < ρ.length := (List.getElem?_eq_some_iff.mp hi).1
      rw [List.getElem?_set_self hlt] at hj
      cases hj
      refine ⟨?_, s, hi, ?_⟩
      · rw [of_join hv]
        rcases k with ⟨rfl, k⟩ | ⟨rfl, k, k2⟩
        · subst hs; exact ⟨a, rfl, hw, fun c f => k c (hfu c f)⟩
        · subst hs; exact ⟨a, rfl, hw, k, fun c f => k2 c (hfu c f)⟩
      · rcases k with ⟨rfl, k⟩ | ⟨rfl, k⟩ <;> (subst hs; rfl)
    · rw [List.getElem?_set_ne (Ne.symm z)] at hj
      exact ⟨(r.slot j t hj).ext hx fun b c ot hb f mb => ⟨mb, upd_ne (other j t b c z hj ot (join_of hb) f)⟩, t, hj, rfl⟩
/-- the owned object of slot i is written -/
theorem Rep.mutate (r : Rep K B M H ρ σ) {i : Nat} {s s' : Slot} {a : Addr} {u : HO} {d' : D} (hi : ρ[i]? = some s) (ho : isOwn s = true) (hv : σ[i]? = some (some (V.ref a)))
    (hw : Ow K M (upd H a u) d' a) (hs : s' = reSlot s d') (hu : toldOf u = none) : Rep K B M (upd H a u) (ρ.set i s') σ :=
  r.mutateF hi ho hv .self hw hs fun _ f => .inl (f.plain upd_same hu)
theorem Rep.setO (r : Rep K B M H ρ σ) (i : Nat) {d : D} {a : Addr} (h : Ow K M H d a) (hb : ∀ c, Foot H a c → B.H c = none) (an : ∀ c, Foot H a c → Anon H ρ σ c) (np : ∀ c, Foot H a c → ∀ p ∈ B.pr, p.1 ≠ c) : Rep K B M H (ρ.set i (.o d)) (σ.set i (some (V.ref a))) where
  keep := r.keep
  old := r.old
  sub := r.sub
  new := r.new
  trk := r.trk
  len := by simp [r.len]
  slot := fun j s hj => by
    rcases set_cases hj with ⟨rfl, rfl, hlt⟩ | ⟨e, hj⟩
    · rw [List.getElem?_set_self (r.len ▸ hlt)]
      exact ⟨a, rfl, h, hb⟩
    · rw [List.getElem?_set_ne (Ne.symm e)]
      exact r.slot j s hj
  apart := fun j k s t b b' c ne h1 h2 o1 o2 v1 v2 f1 f2 => by
    rcases set_cases h1 with ⟨rfl, rfl, hlt⟩ | ⟨e, g1⟩
    · rw [List.getElem?_set_self (r.len ▸ hlt)] at v1
      cases v1
      rw [List.getElem?_set_ne ne] at h2 v2
      exact an c f1 k t b' h2 o2 v2 f2
    · rcases set_cases h2 with ⟨rfl, rfl, hlt⟩ | ⟨e', h2⟩
      · rw [List.getElem?_set_self (r.len ▸ hlt)] at v2
        cases v2
        rw [List.getElem?_set_ne (Ne.symm e)] at v1
        exact an c f2 j s b g1 o1 v1 f1
      · rw [List.getElem?_set_ne (Ne.symm e)] at v1
        rw [List.getElem?_set_ne (Ne.symm e')] at v2
        exact r.apart j k s t b b' c ne g1 h2 o1 o2 v1 v2 f1 f2
  pr := fun p hp => by
    obtain ⟨h1, h2, h3, h4⟩ := r.pr p hp
    refine ⟨h1, h2, fun j s b hj ho hv f => ?_, h4⟩
    rcases set_cases hj with ⟨rfl, rfl, hlt⟩ | ⟨e, hj⟩
    · rw [List.getElem?_set_self (r.len ▸ hlt)] at hv
      cases hv
      exact np _ f p hp rfl
    · rw [List.getElem?_set_ne (Ne.symm e)] at hv
      exact h3 j s b hj ho hv f
end
end NV

set_option Elab.async false
set_option linter.all false
set_option maxRecDepth 100000
set_option maxHeartbeats 4000000
/-! Core2: what a piece of syntax does, as a plain function of the environment. -/
namespace NV
open PySem PySem.Spec PyProof.Rows L2

def ofO {α : Type} (o : Option α) (ρ : Env) : Res α := match o with
  | some a => .ok a ρ
  | none => .bad
def RV.get (ρ : Env) : RV → Option D
  | .val x => some x
  | .own i => match ρ[i]? with
    | some (.o d) => some d
    | some (.p d) => some d
    | _ => none
abbrev EM := Env → Res D
abbrev RM := Env → Res RV
abbrev TM := Env → Res Bool
abbrev AM := Env → Res (List RV)

section
variable {α β γ δ : Type}
variable {X : Cx} {B : Base} {W : WX} {M M' : Addr → Prop} {H H' : Hp} {σ : St} {R : (Addr → Prop) → Hp → Env → α → β → Prop} {R2 : (Addr → Prop) → Hp → Env → γ → δ → Prop}
end

abbrev RelE (K : PySem.W.Frag) : (Addr → Prop) → Hp → Env → D → V → Prop := fun M H _ d v => Rp K M H d v
abbrev RelT : (Addr → Prop) → Hp → Env → Bool → Bool → Prop := fun _ _ _ a b => a = b
def RelA (K : PySem.W.Frag) (σ : St) : (Addr → Prop) → Hp → Env → List RV → List V → Prop := fun M H ρ rs vs => Paired (fun r v => RelR K σ M H ρ r v) rs vs

/-- a reading is served by a function -/
def Sat {α β : Type} (X : Cx) (W : WX) (R : Base → St → (Addr → Prop) → Hp → Env → α → β → Prop) (t : St → Hp → (β → Hp → Prop) → Prop) (m : Env → Res α) : Prop :=
  ∀ (B : Base) (M : Addr → Prop) (H : Hp) (ρ : Env) (σ : St) (Q : β → Hp → Prop), Rep X.K B M H ρ σ → Post X B W (R B σ) M H σ (m ρ) Q → t σ H Q
def DE (X : Cx) (W : WX) (e : Expr) (m : EM) : Prop := ∃ t, PE X e t ∧ Sat X W (fun _ _ => RelE X.K) t m
def DR (X : Cx) (W : WX) (e : Expr) (m : RM) : Prop := ∃ t, PE X e t ∧ Sat X W (fun _ σ => RelR X.K σ) t m
def DF (X : Cx) (W : WX) (e : Expr) (m : EM) : Prop := ∃ t, PE X e t ∧ Sat X W (fun B σ => RelF X.K B σ) t m
def DT (X : Cx) (W : WX) (e : Expr) (m : TM) : Prop := ∃ t, PT X e t ∧ Sat X W (fun _ _ => RelT) t m
def DW (X : Cx) (W : WX) (e : Expr) (m : TM) : Prop := ∃ t, PW X e t ∧ Sat X W (fun _ _ => RelT) t m
def DA (X : Cx) (W : WX) (es : List Expr) (m : AM) : Prop := ∃ t, PA X es t ∧ Sat X W (fun _ σ => RelA X.K σ) t m

/-! ### coercions -/
section
variable {X : Cx} {W : WX} {e : Expr} {es : List Expr}
/-- what is new is a value -/
theorem de_f {m : EM} (h : DF X W e m) : DE X W e m := by
  obtain ⟨t, ht, hs⟩ := h
  refine ⟨t, ht, fun B M H ρ σ Q r h => hs B M H ρ σ Q r (h.imp fun a ρ' M' H' b er x r' ⟨p, eb, w, hb, an, np⟩ k => ?_)⟩
  subst eb
  exact k _ H' _ (x.trans (Ext.sub fun _ z => z.1)) (r'.drop hb an np) w.rp
def rOf (m : EM) : RM := fun ρ => (m ρ).bind fun d ρ' => .ok (.val d) ρ'
theorem dr_e {m : EM} (h : DE X W e m) : DR X W e (rOf m) := by
  obtain ⟨t, ht, hs⟩ := h
  refine ⟨t, ht, fun B M H ρ σ Q r h => hs B M H ρ σ Q r (Post.seq h fun a ρ' M' H' b x r' q k => ?_)⟩
  exact k M' H' b Ext.refl r' q
theorem dt_w {m : TM} (h : DW X W e m) : DT X W e m := by
  obtain ⟨t, ht, hs⟩ := h
  exact ⟨t, ht.pt, hs⟩

/-! ### names, constants -/
def rVar (i : Nat) : RM := fun ρ => match ρ[i]? with
  | some (.v d) => .ok (.val d) ρ
  | some (.o _) => .ok (.own i) ρ
  | some (.p _) => .ok (.own i) ρ
  | _ => .bad
def eVar (i : Nat) : EM := fun ρ => match ρ[i]? with
  | some (.v d) => .ok d ρ
  | _ => .bad
theorem dr_var {i : Nat} {x : Str} {pos : Pos} (h : PE X (.Name x pos) (tVar i)) : DR X W (.Name x pos) (rVar i) := by
  refine ⟨_, h, fun B M H ρ σ Q r h => ?_⟩
  unfold rVar at h
  cases e : ρ[i]? with
  | none => rw [e] at h; exact h.elim
  | some s =>
    rw [e] at h
    have q := r.slot i s e
    cases s with
    | no => exact h.elim
    | v d =>
      obtain ⟨v, e1, rp⟩ := q
      exact ⟨v, join_of e1, h M H v Ext.refl r rp⟩
    | o d =>
      obtain ⟨a, e1, _⟩ := q
      exact ⟨_, join_of e1, h M H _ Ext.refl r (join_of e1)⟩
    | p d =>
      obtain ⟨a, e1, _⟩ := q
      exact ⟨_, join_of e1, h M H _ Ext.refl r (join_of e1)⟩
theorem de_var {i : Nat} {x : Str} {pos : Pos} (h : PE X (.Name x pos) (tVar i)) : DE X W (.Name x pos) (eVar i) := by
  refine ⟨_, h, fun B M H ρ σ Q r h => ?_⟩
  unfold eVar at h
  cases e : ρ[i]? with
  | none => rw [e] at h; exact h.elim
  | some s =>
    rw [e] at h
    have q := r.slot i s e
    cases s with
    | v d =>
      obtain ⟨v, e1, rp⟩ := q
      exact ⟨v, join_of e1, h M H v Ext.refl r rp⟩
    | _ => exact h.elim
def eC (d : D) : EM := fun ρ => .ok d ρ
theorem de_c {d : D} {v : V} (h : PE X e (tC v)) (r : ∀ M H, Rp X.K M H d v) : DE X W e (eC d) :=
  ⟨_, h, fun B M H ρ σ Q rp h => h M H v Ext.refl rp (r M H)⟩
theorem de_int {i j pos} : DE X W (.Constant (.int i) j pos) (eC (.int i)) := de_c pe_int fun _ _ => .int i
theorem de_bl {i j pos} : DE X W (.Constant (.bool i) j pos) (eC (.bl i)) := de_c pe_bl fun _ _ => .bl i
theorem de_non {j pos} : DE X W (.Constant .none j pos) (eC .non) := de_c pe_non fun _ _ => .non
theorem de_str {x j pos} (g : decide (x.length ≤ sizeLine) && PySem.PyData.strOk x = true := by decide +kernel) : DE X W (.Constant (.str x) j pos) (eC (.str x)) := de_c pe_str fun _ _ => .str (by
  rw [Bool.and_eq_true] at g
  exact ⟨of_decide_eq_true g.1, by simpa using g.2⟩)

/-! ### what an operand reads -/
def Rq (K : PySem.W.Frag) (M : Addr → Prop) (H : Hp) (d : D) (v : V) : Prop := match d with
  | .lst ds => ds.length ≤ sizeLine ∧ ∃ a vs, v = .ref a ∧ H a = some (.lst vs) ∧ RpL K M H ds vs
  | .dct kvs => kvs.length ≤ sizeLine ∧ ∃ a ws, v = .ref a ∧ H a = some (.dK ws) ∧ RpK K M H kvs ws
  | .dt kvs => kvs.length ≤ sizeLine ∧ ∃ a ws, v = .ref a ∧ H a = some (.dT ws) ∧ RpT K M H kvs ws
  | .obj ds kvs => ds.length = 10 ∧ ∃ a dx b vs ws, v = .ref a ∧ H a = some (.ins (He.ga K "House") dx (hFs vs b)) ∧ RpL K M H ds vs ∧ kvs.length ≤ sizeLine ∧ H b = some (.dT ws) ∧ RpT K M H kvs ws
  | d => Rp K M H d v
theorem Rp.rq {K : PySem.W.Frag} {M : Addr → Prop} {H : Hp} {d : D} {v : V} (h : Rp K M H d v) : Rq K M H d v := by
  cases d with
  | lst ds => cases h with
    | lst l n h1 h2 => exact ⟨l, _, _, rfl, h1, h2⟩
  | dct ds => cases h with
    | dct l n h1 h2 => exact ⟨l, _, _, rfl, h1, h2⟩
  | dt ds => cases h with
    | dt l n h1 h2 => exact ⟨l, _, _, rfl, h1, h2⟩
  | obj ds kvs => cases h with
    | obj n h1 l h2 n2 l2 h3 h4 => exact ⟨l, _, _, _, _, _, rfl, h1, h2, l2, h3, h4⟩
  | _ => exact h
theorem Ow.rq {K : PySem.W.Frag} {M : Addr → Prop} {H : Hp} {d : D} {a : Addr} (h : Ow K M H d a) : Rq K M H d (.ref a) := by
  cases d with
  | lst ds => obtain ⟨_, l, vs, e, q⟩ := h; exact ⟨l, a, vs, rfl, e, q⟩
  | dct ds => obtain ⟨_, l, vs, e, q⟩ := h; exact ⟨l, a, vs, rfl, e, q⟩
  | dt ds => obtain ⟨_, l, vs, e, q⟩ := h; exact ⟨l, a, vs, rfl, e, q⟩
  | obj ds kvs =>
    obtain ⟨_, l, dx, b, vs, ws, e1, r1, _, l2, e2, r2⟩ := h
    exact ⟨l, a, dx, b, vs, ws, rfl, e1, r1, l2, e2, r2⟩
  | _ => exact h.elim
theorem RelR.rq {B : Base} {M M' : Addr → Prop} {H H' : Hp} {ρ ρ' : Env} {σ : St} {r : RV} {v : V} {d : D} (h : RelR X.K σ M H ρ r v) (x : Ext M H M' H') (rp : Rep X.K B M' H' ρ' σ) (g : r.get ρ' = some d) : Rq X.K M' H' d v := by
  cases r with
  | val d' =>
    cases g
    exact (Rp.ext x h).rq
  | own i =>
    have hv : σ[i]? = some (some v) := h
    cases e : ρ'[i]? with
    | none => simp only [RV.get, e] at g; cases g
    | some s =>
      have q := rp.slot i s e
      simp only [RV.get, e] at g
      cases s with
      | no => cases g
      | v d => cases g
      | o d' =>
        cases g
        obtain ⟨a, e1, w, _⟩ := q
        rw [of_join hv] at e1
        cases e1
        exact w.rq
      | p d' =>
        cases g
        obtain ⟨a, e1, w, _⟩ := q
        rw [of_join hv] at e1
        cases e1
        exact w.rq
/-! ### operators -/
/-- what an operator's rule asks is served by f (its answer a value) -/
def OpE (X : Cx) (f : D → D → Option D) (r : R2) : Prop :=
  ∀ (B : Base) (W : WX) (M : Addr → Prop) (H : Hp) (ρ : Env) (σ : St) (d e z : D) (x y : V) (Q : V → Hp → Prop), Rep X.K B M H ρ σ → Rq X.K M H d x → Rq X.K M H e y → f d e = some z →
    Post X B W (RelE X.K) M H σ (.ok z ρ) Q → r x y H Q
/-- .. its answer a new object -/
def OpF (X : Cx) (f : D → D → Option D) (r : R2) : Prop :=
  ∀ (B : Base) (W : WX) (M : Addr → Prop) (H : Hp) (ρ : Env) (σ : St) (d e z : D) (x y : V) (Q : V → Hp → Prop), Rep X.K B M H ρ σ → Rq X.K M H d x → Rq X.K M H e y → f d e = some z →
    Post X B W (RelF X.K B σ) M H σ (.ok z ρ) Q → r x y H Q
def eOp2 (f : D → D → Option D) (ma mb : RM) : EM := fun ρ => (ma ρ).bind fun x ρ1 => (mb ρ1).bind fun y ρ2 => (ofO (x.get ρ2) ρ2).bind fun d _ => (ofO (y.get ρ2) ρ2).bind fun e _ => ofO (f d e) ρ2
section
variable {a b c : Expr} {ma mb mc : RM} {f g : D → D → Option D} {r r' : R2} {op : Operator} {cop cop' : CmpOp} {pos : Pos}
theorem op2_sat {ta tb : TE} {R : Base → St → (Addr → Prop) → Hp → Env → D → V → Prop} (sa : Sat X W (fun _ σ => RelR X.K σ) ta ma) (sb : Sat X W (fun _ σ => RelR X.K σ) tb mb)
    (h : ∀ (B : Base) (M : Addr → Prop) (H : Hp) (ρ : Env) (σ : St) (d e z : D) (x y : V) (Q : V → Hp → Prop), Rep X.K B M H ρ σ → Rq X.K M H d x → Rq X.K M H e y → f d e = some z → Post X B W (R B σ) M H σ (.ok z ρ) Q → r x y H Q) :
    Sat X W R (tOp r ta tb) (eOp2 f ma mb) := by
  intro B M H ρ σ Q rp k
  refine sa B M H ρ σ _ rp (Post.seq k fun x ρ1 M1 H1 v x1 r1 q1 k1 => ?_)
  refine sb B M1 H1 ρ1 σ _ r1 (Post.seq k1 fun y ρ2 M2 H2 w x2 r2 q2 k2 => ?_)
  cases ex : x.get ρ2 with
  | none => rw [ex] at k2; exact k2.elim
  | some d =>
    rw [ex] at k2
    cases ey : y.get ρ2 with
    | none => rw [ey] at k2; exact k2.elim
    | some e =>
      rw [ey] at k2
      cases ez : f d e with
      | none => simp only [ofO, Res.bind, ez] at k2; exact k2.elim
      | some z =>
        simp only [ofO, Res.bind, ez] at k2
        exact h B M2 H2 ρ2 σ d e z v w Q r2 (q1.rq x2 r2 ex) (q2.rq Ext.refl r2 ey) ez k2
theorem de_op (hr : OpR X (binaryOp op) r) (ho : OpE X f r) (ha : DR X W a ma) (hb : DR X W b mb) : DE X W (.BinOp a op b pos) (eOp2 f ma mb) := by
  obtain ⟨ta, pa, sa⟩ := ha
  obtain ⟨tb, pb, sb⟩ := hb
  exact ⟨_, pe_op hr pa pb, op2_sat sa sb fun B M H ρ σ d e z x y Q h1 h2 h3 h4 h5 => ho B W M H ρ σ d e z x y Q h1 h2 h3 h4 h5⟩
theorem df_op (hr : OpR X (binaryOp op) r) (ho : OpF X f r) (ha : DR X W a ma) (hb : DR X W b mb) : DF X W (.BinOp a op b pos) (eOp2 f ma mb) := by
  obtain ⟨ta, pa, sa⟩ := ha
  obtain ⟨tb, pb, sb⟩ := hb
  exact ⟨_, pe_op hr pa pb, op2_sat sa sb fun B M H ρ σ d e z x y Q h1 h2 h3 h4 h5 => ho B W M H ρ σ d e z x y Q h1 h2 h3 h4 h5⟩
theorem de_cmp (hr : OpR X (compareOp cop) r) (ho : OpE X f r) (ha : DR X W a ma) (hb : DR X W b mb) (hm : behindInMarks cop b = false) : DE X W (.Compare a [cop] [b] pos) (eOp2 f ma mb) := by
  obtain ⟨ta, pa, sa⟩ := ha
  obtain ⟨tb, pb, sb⟩ := hb
  exact ⟨_, pe_cmpR hr pa pb hm, op2_sat sa sb fun B M H ρ σ d e z x y Q h1 h2 h3 h4 h5 => ho B W M H ρ σ d e z x y Q h1 h2 h3 h4 h5⟩
/-- a truth -/
def asB (d : D) (ρ : Env) : Res Bool := match d with
  | .bl b => .ok b ρ
  | _ => .bad
def tOfE (m : EM) : TM := fun ρ => (m ρ).bind asB
theorem test_sat {te : TE} {m : EM} (h : Sat X W (fun _ _ => RelE X.K) te m) : Sat X W (fun _ _ => RelT) (tTest te) (tOfE m) := by
  intro B M H ρ σ Q rp k
  refine h B M H ρ σ _ rp (Post.seq k fun d ρ1 M1 H1 v x1 r1 q1 k1 => ?_)
  cases d with
  | bl b =>
    cases q1
    exact ⟨b, rfl, k1 M1 H1 b Ext.refl r1 rfl⟩
  | _ => exact k1.elim
theorem dt_cmp (hr : OpR X (compareOp cop) r) (ho : OpE X f r) (ha : DR X W a ma) (hb : DR X W b mb) (hm : behindInMarks cop b = false) : DT X W (.Compare a [cop] [b] pos) (tOfE (eOp2 f ma mb)) := by
  obtain ⟨ta, pa, sa⟩ := ha
  obtain ⟨tb, pb, sb⟩ := hb
  exact ⟨_, pt_cmpR hr pa pb hm, test_sat (op2_sat sa sb fun B M H ρ σ d e z x y Q h1 h2 h3 h4 h5 => ho B W M H ρ σ d e z x y Q h1 h2 h3 h4 h5)⟩
theorem dt_e {m : EM} (h : DE X W a m) (he : ∀ whole, isTrue a X.env whole = (do let v ← whole; standAt a.pos; holding [v] (truthy v)) := by intro _; rfl) : DT X W a (tOfE m) := by
  obtain ⟨t, pt, s⟩ := h
  exact ⟨_, pt_val pt he, test_sat s⟩
/-- a op b op' c -/
def eChain (f g : D → D → Option D) (ma mb mc : RM) : EM := fun ρ => (ma ρ).bind fun x ρ1 => (mb ρ1).bind fun y ρ2 => (ofO (x.get ρ2) ρ2).bind fun d _ => (ofO (y.get ρ2) ρ2).bind fun e _ =>
  (ofO (f d e) ρ2).bind fun z _ => (asB z ρ2).bind fun k _ => if k then (mc ρ2).bind fun w ρ3 => (ofO (y.get ρ3) ρ3).bind fun e' _ => (ofO (w.get ρ3) ρ3).bind fun h _ => ofO (g e' h) ρ3 else .ok (.bl false) ρ2
theorem chain_sat {ta tb tc : TE} (ho : OpE X f r) (ho' : OpE X g r') (sa : Sat X W (fun _ σ => RelR X.K σ) ta ma) (sb : Sat X W (fun _ σ => RelR X.K σ) tb mb) (sc : Sat X W (fun _ σ => RelR X.K σ) tc mc) :
    Sat X W (fun _ _ => RelE X.K) (tChain r r' ta tb tc) (eChain f g ma mb mc) := by
  intro B M H ρ σ Q rp k
  refine sa B M H ρ σ _ rp (Post.seq k fun x ρ1 M1 H1 v x1 r1 q1 k1 => ?_)
  refine sb B M1 H1 ρ1 σ _ r1 (Post.seq k1 fun y ρ2 M2 H2 w x2 r2 q2 k2 => ?_)
  cases ex : x.get ρ2 with
  | none => rw [ex] at k2; exact k2.elim
  | some d =>
    rw [ex] at k2
    cases ey : y.get ρ2 with
    | none => rw [ey] at k2; exact k2.elim
    | some e =>
      rw [ey] at k2
      cases ez : f d e with
      | none => simp only [ofO, Res.bind, ez] at k2; exact k2.elim
      | some z =>
        simp only [ofO, Res.bind, ez] at k2
        refine ho B W M2 H2 ρ2 σ d e z v w _ r2 (q1.rq x2 r2 ex) (q2.rq Ext.refl r2 ey) ez fun M3 H3 zv x3 r3 q3 => ?_
        cases z with
        | bl kk =>
          cases q3
          refine ⟨kk, rfl, ?_⟩
          cases kk with
          | false =>
            rw [if_neg Bool.false_ne_true]
            exact k2 M3 H3 _ x3 r3 (.bl false)
          | true =>
            rw [if_pos rfl]
            have k3 : Post X B W (RelE X.K) M3 H3 σ ((mc ρ2).bind fun w ρ3 => (ofO (y.get ρ3) ρ3).bind fun e' _ => (ofO (w.get ρ3) ρ3).bind fun h _ => ofO (g e' h) ρ3) Q := Post.shift x3 k2
            refine sc B M3 H3 ρ2 σ _ r3 (Post.seq k3 fun u ρ4 M4 H4 uv x4 r4 q4 k4 => ?_)
            cases ey' : y.get ρ4 with
            | none => rw [ey'] at k4; exact k4.elim
            | some e' =>
              rw [ey'] at k4
              cases eu : u.get ρ4 with
              | none => simp only [ofO, Res.bind, eu] at k4; exact k4.elim
              | some h' =>
                simp only [ofO, Res.bind, eu] at k4
                cases eg : g e' h' with
                | none => rw [eg] at k4; exact k4.elim
                | some z' =>
                  rw [eg] at k4
                  exact ho' B W M4 H4 ρ4 σ e' h' z' w uv Q r4 (q2.rq (x3.trans x4) r4 ey') (q4.rq Ext.refl r4 eu) eg k4
        | _ => exact k2.elim
theorem de_chain (hr : OpR X (compareOp cop) r) (ho : OpE X f r) (hr' : OpR X (compareOp cop') r') (ho' : OpE X g r') (ha : DR X W a ma) (hb : DR X W b mb) (hc : DR X W c mc)
    (hm : lastMarks [cop, cop'] [b, c] = false := by with_unfolding_all rfl) : DE X W (.Compare a [cop, cop'] [b, c] pos) (eChain f g ma mb mc) := by
  obtain ⟨ta, pa, sa⟩ := ha
  obtain ⟨tb, pb, sb⟩ := hb
  obtain ⟨tc, pc, sc⟩ := hc
  exact ⟨_, pe_chain hr hr' pa pb pc hm, chain_sat ho ho' sa sb sc⟩
theorem dt_chain (hr : OpR X (compareOp cop) r) (ho : OpE X f r) (hr' : OpR X (compareOp cop') r') (ho' : OpE X g r') (ha : DR X W a ma) (hb : DR X W b mb) (hc : DR X W c mc)
    (hm : lastMarks [cop, cop'] [b, c] = false := by with_unfolding_all rfl) : DT X W (.Compare a [cop, cop'] [b, c] pos) (tOfE (eChain f g ma mb mc)) := by
  obtain ⟨ta, pa, sa⟩ := ha
  obtain ⟨tb, pb, sb⟩ := hb
  obtain ⟨tc, pc, sc⟩ := hc
  exact ⟨_, pt_chain hr hr' pa pb pc hm, test_sat (chain_sat ho ho' sa sb sc)⟩
end

/-! ### and, or, not, if .. else -/
section
variable {a b : Expr} {rest : List Expr} {ma mb : TM} {pos : Pos}
def tAndM (ma mb : TM) : TM := fun ρ => (ma ρ).bind fun k ρ1 => if k then mb ρ1 else .ok false ρ1
def tOrM (ma mb : TM) : TM := fun ρ => (ma ρ).bind fun k ρ1 => if k then .ok true ρ1 else mb ρ1
def tNotM (ma : TM) : TM := fun ρ => (ma ρ).bind fun k ρ1 => .ok (!k) ρ1
theorem dw_and1 (ha : DT X W a ma) : DW X W (.BoolOp .And [a] pos) ma := by
  obtain ⟨t, pt, s⟩ := ha
  exact ⟨t, pw_and1 pt, s⟩
theorem dw_or1 (ha : DT X W a ma) : DW X W (.BoolOp .Or [a] pos) ma := by
  obtain ⟨t, pt, s⟩ := ha
  exact ⟨t, pw_or1 pt, s⟩
theorem dw_and (ha : DT X W a ma) (hb : DW X W (.BoolOp .And (b :: rest) pos) mb) : DW X W (.BoolOp .And (a :: b :: rest) pos) (tAndM ma mb) := by
  obtain ⟨t, pt, s⟩ := ha
  obtain ⟨u, pu, s'⟩ := hb
  refine ⟨_, pw_and pt pu, fun B M H ρ σ Q rp k => s B M H ρ σ _ rp (Post.seq k fun x ρ1 M1 H1 v x1 r1 q1 k1 => ?_)⟩
  cases q1
  cases x with
  | true => exact iteT (s' B M1 H1 ρ1 σ Q r1 k1)
  | false => exact iteF (k1 M1 H1 false Ext.refl r1 rfl)
theorem dw_or (ha : DT X W a ma) (hb : DW X W (.BoolOp .Or (b :: rest) pos) mb) : DW X W (.BoolOp .Or (a :: b :: rest) pos) (tOrM ma mb) := by
  obtain ⟨t, pt, s⟩ := ha
  obtain ⟨u, pu, s'⟩ := hb
  refine ⟨_, pw_or pt pu, fun B M H ρ σ Q rp k => s B M H ρ σ _ rp (Post.seq k fun x ρ1 M1 H1 v x1 r1 q1 k1 => ?_)⟩
  cases q1
  cases x with
  | true => exact iteT (k1 M1 H1 true Ext.refl r1 rfl)
  | false => exact iteF (s' B M1 H1 ρ1 σ Q r1 k1)
theorem dt_not (ha : DT X W a ma) : DT X W (.UnaryOp .Not a pos) (tNotM ma) := by
  obtain ⟨t, pt, s⟩ := ha
  refine ⟨_, pt_not pt, fun B M H ρ σ Q rp k => s B M H ρ σ _ rp (Post.seq k fun x ρ1 M1 H1 v x1 r1 q1 k1 => ?_)⟩
  cases q1
  exact k1 M1 H1 _ Ext.refl r1 rfl
def eIf (mc : TM) (ma mb : EM) : EM := fun ρ => (mc ρ).bind fun k ρ1 => if k then ma ρ1 else mb ρ1
/-- truth of a value -/
def truthy : D → Option Bool
  | .non => some false
  | .bl b => some b
  | .int i => some (i != 0)
  | .str x => some ((x.length : Int) != 0)
  | .tup xs => some (!xs.isEmpty)
  | .lst xs => some (!xs.isEmpty)
  | .dct xs => some (!xs.isEmpty)
  | _ => none
theorem truV_of {M : Addr → Prop} {H : Hp} {d : D} {v : V} {k : Bool} (h : Rq X.K M H d v) (e : truthy d = some k) : TruV X.K v H k := by
  cases d with
  | non => cases h; cases e; rfl
  | bl b => cases h; cases e; rfl
  | int i => cases h; cases e; rfl
  | str x => cases h with
    | str g => cases e; exact ⟨g.1, rfl⟩
  | tup xs => cases h with
    | tup l h1 h2 =>
      cases e
      refine .inr (.inl ⟨_, h1, ?_⟩)
      cases h2 <;> rfl
  | lst xs =>
    obtain ⟨l, a, vs, rfl, h1, h2⟩ := h
    cases e
    refine .inl ⟨_, SqL.of h1, ?_⟩
    cases h2 <;> rfl
  | dct xs =>
    obtain ⟨l, a, vs, rfl, h1, h2⟩ := h
    cases e
    refine .inr (.inr ⟨_, h1, ?_⟩)
    cases h2 <;> rfl
  | _ => cases e
def eAnd (ma mb : EM) : EM := fun ρ => (ma ρ).bind fun d ρ1 => (ofO (truthy d) ρ1).bind fun k _ => if k then mb ρ1 else .ok d ρ1
def eOr (ma mb : EM) : EM := fun ρ => (ma ρ).bind fun d ρ1 => (ofO (truthy d) ρ1).bind fun k _ => if k then .ok d ρ1 else mb ρ1
def eNot (ma : EM) : EM := fun ρ => (ma ρ).bind fun d ρ1 => (ofO (truthy d) ρ1).bind fun k _ => .ok (.bl (!k)) ρ1
theorem de_one {op} {m : EM} (h : DE X W a m) : DE X W (.BoolOp op [a] pos) m := by
  obtain ⟨t, pt, s⟩ := h
  exact ⟨t, pe_one pt, s⟩
variable {ea eb : EM}
end
end
end NV

set_option Elab.async false
set_option linter.all false
set_option maxRecDepth 100000
set_option maxHeartbeats 4000000
/-! Core3: the operators and the built-in functions. -/
namespace NV
open PySem PySem.Spec PyProof.Rows L2

structure Cd (X : Cx) : Prop where
  calm : X.calm = true
  units : X.A.units + 64 < cLine
theorem Cd.blk {X : Cx} (c : Cd X) {s : Shared} {H : Hp} {scope : Scope} {cenv : PySem.Env} {fp : List Addr} : Cd (X.blk s H scope cenv fp) := ⟨c.calm, c.units⟩

/-! ### a scalar answer, a new object -/
section
variable {X : Cx} {B : Base} {W : WX} {M : Addr → Prop} {H : Hp} {ρ : Env} {σ : St} {z : D} {Q : V → Hp → Prop}
theorem post_v (h : Post X B W (RelE X.K) M H σ (.ok z ρ) Q) (r : Rep X.K B M H ρ σ) {v : V} (q : Rp X.K M H z v) : Q v H := h M H v Ext.refl r q
/-- a new tuple -/
theorem post_t {ds : List D} {vs : List V} {p : Addr} (h : Post X B W (RelE X.K) M H σ (.ok (.tup ds) ρ) Q) (r : Rep X.K B M H ρ σ) (q : RpL X.K M H ds vs) (hl : ds.length ≤ sizeLine) (hp : H p = none) : Q (.ref p) (upd H p (.tup vs)) :=
  h M _ _ (Ext.new hp) (r.alloc hp) (.tup hl (SqT.of upd_same) (q.ext (Ext.new hp)))
/-- a new list, as a value -/
theorem post_l {ds : List D} {vs : List V} {p : Addr} (h : Post X B W (RelE X.K) M H σ (.ok (.lst ds) ρ) Q) (r : Rep X.K B M H ρ σ) (q : RpL X.K M H ds vs) (hl : ds.length ≤ sizeLine) (hp : H p = none) : Q (.ref p) (upd H p (.lst vs)) :=
  h M _ _ (Ext.new hp) (r.alloc hp) (.lst hl (fun m => r.trk p m hp) upd_same (q.ext (Ext.new hp)))
theorem Rep.anon_new (r : Rep X.K B M H ρ σ) {p : Addr} (hp : H p = none) : Anon H ρ σ p := fun i s a hi ho hv f => r.own_ne hi ho hv f hp rfl
/-- .. it stands there by now, and is plain -/
theorem Rep.anon_newU (r : Rep X.K B M H ρ σ) {p c : Addr} {u : HO} (hp : H p = none) (hu : toldOf u = none) (f : Foot (upd H p u) p c) : Anon (upd H p u) ρ σ c := by
  rw [f.plain upd_same hu]
  exact (r.anon_new hp).mono fun i s a hi ho hv => ⟨s, hi, ho, hv, fun g => by
    obtain ⟨d, w, _⟩ := r.ownAt hi ho hv
    exact w.foot_eq (fun o q => by rw [upd_ne (ne_of_none q hp)]; exact q) g⟩
theorem Rep.base_new (r : Rep X.K B M H ρ σ) {p : Addr} (hp : H p = none) : B.H p = none := by
  cases q : B.H p with
  | none => rfl
  | some o => exact absurd hp (r.old p (by rw [q]; simp))
theorem Rep.pr_new (r : Rep X.K B M H ρ σ) {p : Addr} (hp : H p = none) : ∀ q ∈ B.pr, q.1 ≠ p := fun q hq => ne_of_none (r.pr q hq).1 hp
/-- a new list, owned -/
theorem post_o {ds : List D} {vs : List V} {p : Addr} (h : Post X B W (RelF X.K B σ) M H σ (.ok (.lst ds) ρ) Q) (r : Rep X.K B M H ρ σ) (q : RpL X.K M H ds vs) (hl : ds.length ≤ sizeLine) (hp : H p = none) : Q (.ref p) (upd H p (.lst vs)) :=
  h _ _ _ (Ext.newO hp) (r.allocO hp) ⟨p, rfl, ⟨.inr rfl, hl, vs, upd_same, q.ext (Ext.newO hp)⟩, fun c f => by rw [f.plain upd_same rfl]; exact r.base_new hp, fun c f => r.anon_newU hp rfl f, fun c f => by rw [f.plain upd_same rfl]; exact r.pr_new hp⟩
end

theorem rq_int {K : PySem.W.Frag} {M : Addr → Prop} {H : Hp} {i : Int} {v : V} (h : Rq K M H (.int i) v) : v = .int i := by cases h; rfl
theorem rq_bl {K : PySem.W.Frag} {M : Addr → Prop} {H : Hp} {i : Bool} {v : V} (h : Rq K M H (.bl i) v) : v = .bl i := by cases h; rfl
theorem rq_non {K : PySem.W.Frag} {M : Addr → Prop} {H : Hp} {v : V} (h : Rq K M H .non v) : v = .non := by cases h; rfl
theorem rq_str {K : PySem.W.Frag} {M : Addr → Prop} {H : Hp} {x : Str} {v : V} (h : Rq K M H (.str x) v) : v = .str x ∧ StrG x := by cases h with | str g => exact ⟨rfl, g⟩
theorem rq_tup {K : PySem.W.Frag} {M : Addr → Prop} {H : Hp} {ds : List D} {v : V} (h : Rq K M H (.tup ds) v) : ∃ a vs, v = .ref a ∧ ds.length ≤ sizeLine ∧ SqT K H a vs ∧ RpL K M H ds vs := by cases h with | tup l h1 h2 => exact ⟨_, _, rfl, l, h1, h2⟩
theorem rq_lst {K : PySem.W.Frag} {M : Addr → Prop} {H : Hp} {ds : List D} {v : V} (h : Rq K M H (.lst ds) v) : ∃ a vs, v = .ref a ∧ ds.length ≤ sizeLine ∧ H a = some (.lst vs) ∧ RpL K M H ds vs := by
  obtain ⟨l, a, vs, e, h1, h2⟩ := h
  exact ⟨a, vs, e, l, h1, h2⟩
theorem rq_dct {K : PySem.W.Frag} {M : Addr → Prop} {H : Hp} {ds : List (Key × D)} {v : V} (h : Rq K M H (.dct ds) v) : ∃ a vs, v = .ref a ∧ ds.length ≤ sizeLine ∧ H a = some (.dK vs) ∧ RpK K M H ds vs := by
  obtain ⟨l, a, vs, e, h1, h2⟩ := h
  exact ⟨a, vs, e, l, h1, h2⟩
theorem rq_scr {K : PySem.W.Frag} {M : Addr → Prop} {H : Hp} {xs : List Int} {v : V} (h : Rq K M H (.scr xs) v) : ∃ a, v = .ref a ∧ xs.length ≤ sizeLine ∧ SqS K H a xs := by cases h with | scr l h1 => exact ⟨_, rfl, l, h1⟩

/-! ### arithmetic -/
def addD : D → D → Option D
  | .int i, .int j => some (.int (i + j))
  | .str a, .str b => if a.length + b.length ≤ sizeLine then some (.str (a ++ b)) else none
  | .tup a, .tup b => if a.length + b.length ≤ sizeLine then some (.tup (a ++ b)) else none
  | .lst a, .lst b => if a.length + b.length ≤ sizeLine then some (.lst (a ++ b)) else none
  | _, _ => none
theorem strG_append {a b : Str} (ha : StrG a) (hb : StrG b) (h : a.length + b.length ≤ sizeLine) : StrG (a ++ b) := by
  refine ⟨?_, ?_⟩
  · show (a.cps ++ b.cps).size ≤ sizeLine
    rw [Array.size_append]
    exact h
  · have h1 := ha.2
    have h2 := hb.2
    unfold PySem.PyData.strOk at h1 h2 ⊢
    show (a.cps ++ b.cps).all _ = true
    rw [Array.all_append, h1, h2]
    rfl
def rAddS : R2 := fun x y H Q => ∃ i j, x = .str i ∧ y = .str j ∧ i.length + j.length ≤ sizeLine ∧ Q (.str (i ++ j)) H
abbrev rAddI : R2 := rI0 fun i j => .int (i + j)
def rAdd4 (K : PySem.W.Frag) : R2 := fun x y H Q => rAddI x y H Q ∨ (rAddS x y H Q ∨ (rCatA K x y H Q ∨ rCat x y H Q))
section
variable {X : Cx}
theorem op_add4 : OpR X (binaryOp .Add) (rAdd4 X.K) := op_add.or (OpR.or (r := rAddS) op_add_str (op_catA.or op_cat))
theorem o_add : OpE X addD (rAdd4 X.K) := by
  intro B W M H ρ σ d e z x y Q rp hx hy hf h
  unfold addD at hf
  split at hf
  · cases hf
    exact .inl ⟨_, _, rq_int hx, rq_int hy, post_v h rp (.int _)⟩
  · split at hf
    · rename_i hl
      cases hf
      obtain ⟨e1, g1⟩ := rq_str hx
      obtain ⟨e2, g2⟩ := rq_str hy
      exact .inr (.inl ⟨_, _, e1, e2, hl, post_v h rp (.str (strG_append g1 g2 hl))⟩)
    · cases hf
  · split at hf
    · rename_i hl
      cases hf
      obtain ⟨a, vs, e1, l1, t1, r1⟩ := rq_tup hx
      obtain ⟨b, ws, e2, l2, t2, r2⟩ := rq_tup hy
      subst e1 e2
      refine .inr (.inr (.inl ⟨a, b, vs, ws, rfl, rfl, t1, t2, by rw [← r1.length, ← r2.length]; exact hl, fun e => ?_, fun _ e => ?_, fun _ _ p hp => ?_⟩))
      · subst e
        cases r1
        exact post_v h rp (.tup (by simpa using hl) t2 r2)
      · subst e
        cases r2
        exact post_v h rp (.tup (by simpa using hl) t1 (by simpa using r1))
      · exact post_t h rp (r1.append r2) (by simpa using hl) hp
    · cases hf
  · split at hf
    · rename_i hl
      cases hf
      obtain ⟨a, vs, e1, l1, t1, r1⟩ := rq_lst hx
      obtain ⟨b, ws, e2, l2, t2, r2⟩ := rq_lst hy
      subst e1 e2
      exact .inr (.inr (.inr ⟨a, b, vs, ws, rfl, rfl, t1, t2, by rw [← r1.length, ← r2.length]; exact hl, fun p hp => post_l h rp (r1.append r2) (by simpa using hl) hp⟩))
    · cases hf
  · cases hf
/-- two lists -/
def catD : D → D → Option D
  | .lst a, .lst b => if a.length + b.length ≤ sizeLine then some (.lst (a ++ b)) else none
  | _, _ => none
theorem o_cat : OpF X catD rCat := by
  intro B W M H ρ σ d e z x y Q rp hx hy hf h
  unfold catD at hf
  split at hf
  · split at hf
    · rename_i hl
      cases hf
      obtain ⟨a, vs, e1, l1, t1, r1⟩ := rq_lst hx
      obtain ⟨b, ws, e2, l2, t2, r2⟩ := rq_lst hy
      subst e1 e2
      exact ⟨a, b, vs, ws, rfl, rfl, t1, t2, by rw [← r1.length, ← r2.length]; exact hl, fun p hp => post_o h rp (r1.append r2) (by simpa using hl) hp⟩
    · cases hf
  · cases hf
/-- ints in, under a condition, a scalar out -/
theorem o_int {C : Int → Int → Prop} [∀ i j, Decidable (C i j)] {g : Int → Int → V} {g' : Int → Int → D} (hg : ∀ i j K M H, Rp K M H (g' i j) (g i j)) :
    OpE X (fun d e => match d, e with
      | .int i, .int j => if C i j then some (g' i j) else none
      | _, _ => none) (rI C g) := by
  intro B W M H ρ σ d e z x y Q rp hx hy hf h
  dsimp only at hf
  split at hf
  · split at hf
    · rename_i hc
      cases hf
      exact ⟨_, _, rq_int hx, rq_int hy, hc, post_v h rp (hg _ _ _ _ _)⟩
    · cases hf
  · cases hf
theorem o_int0 {g : Int → Int → V} {g' : Int → Int → D} (hg : ∀ i j K M H, Rp K M H (g' i j) (g i j)) :
    OpE X (fun d e => match d, e with
      | .int i, .int j => some (g' i j)
      | _, _ => none) (rI0 g) := by
  intro B W M H ρ σ d e z x y Q rp hx hy hf h
  dsimp only at hf
  split at hf
  · cases hf
    exact ⟨_, _, rq_int hx, rq_int hy, post_v h rp (hg _ _ _ _ _)⟩
  · cases hf
def i2 (g' : Int → Int → D) : D → D → Option D := fun d e => match d, e with
  | .int i, .int j => some (g' i j)
  | _, _ => none
def i2c (C : Int → Int → Prop) [∀ i j, Decidable (C i j)] (g' : Int → Int → D) : D → D → Option D := fun d e => match d, e with
  | .int i, .int j => if C i j then some (g' i j) else none
  | _, _ => none
def subD := i2 fun i j => .int (i - j)
theorem o_sub : OpE X subD (rI0 fun i j => .int (i - j)) := o_int0 fun _ _ _ _ _ => .int _
instance (i j : Int) : Decidable (CMul i j) := by unfold CMul; infer_instance
instance (i j : Int) : Decidable (CDiv i j) := by unfold CDiv; infer_instance
instance (i j : Int) : Decidable (CPow i j) := by unfold CPow; infer_instance
def fdivD := i2c CDiv fun i j => .int (i / j)
theorem o_fdiv : OpE X fdivD (rI CDiv fun i j => .int (i / j)) := o_int fun _ _ _ _ _ => .int _
def modD := i2c (fun _ j => 0 < j) fun i j => .int (i % j)
theorem o_mod : OpE X modD (rI (fun _ j => 0 < j) fun i j => .int (i % j)) := o_int fun _ _ _ _ _ => .int _
def powD := i2c CPow fun i j => .int (i ^ j.toNat)
theorem o_pow : OpE X powD (rI CPow fun i j => .int (i ^ j.toNat)) := o_int fun _ _ _ _ _ => .int _
def ltD := i2 fun i j => .bl (decide (i < j))
theorem o_lt : OpE X ltD (rI0 fun i j => .bl (decide (i < j))) := o_int0 fun _ _ _ _ _ => .bl _
def leD := i2 fun i j => .bl (decide (i ≤ j))
theorem o_le : OpE X leD (rI0 fun i j => .bl (decide (i ≤ j))) := o_int0 fun _ _ _ _ _ => .bl _
def gtD := i2 fun i j => .bl (decide (j < i))
theorem o_gt : OpE X gtD (rI0 fun i j => .bl (decide (j < i))) := o_int0 fun _ _ _ _ _ => .bl _
def geD := i2 fun i j => .bl (decide (j ≤ i))
theorem o_ge : OpE X geD (rI0 fun i j => .bl (decide (j ≤ i))) := o_int0 fun _ _ _ _ _ => .bl _
/-- int * int, list * int -/
def repL (xs : List D) (k : Int) : List D := (List.replicate k.toNat xs).flatten
def mulD : D → D → Option D
  | .int i, .int j => if CMul i j then some (.int (i * j)) else none
  | .lst xs, .int k => if -(2 ^ 63) ≤ k ∧ k < 2 ^ 63 ∧ xs.length * k.toNat ≤ sizeLine then some (.lst (repL xs k)) else none
  | _, _ => none
def rMul2 : R2 := fun x y H Q => rI CMul (fun i j => .int (i * j)) x y H Q ∨ rRep x y H Q
theorem op_mul2 : OpR X (binaryOp .Mult) rMul2 := op_mul.or op_rep
theorem RpL.rep {K : PySem.W.Frag} {M : Addr → Prop} {H : Hp} {ds : List D} {vs : List V} (h : RpL K M H ds vs) : ∀ k : Nat, RpL K M H (List.replicate k ds).flatten (List.replicate k vs).flatten
  | 0 => .nil
  | k + 1 => by
    rw [List.replicate_succ, List.replicate_succ, List.flatten_cons, List.flatten_cons]
    exact h.append (RpL.rep h k)
theorem repL_length (xs : List D) (k : Int) : (repL xs k).length = xs.length * k.toNat := by
  unfold repL
  rw [List.length_flatten, List.map_replicate, List.sum_replicate_nat, Nat.mul_comm]
end
end NV

set_option Elab.async false
set_option linter.all false
set_option maxRecDepth 100000
set_option maxHeartbeats 4000000
/-! Core3b: equality, in, is. -/
namespace NV
open PySem PySem.Spec PyProof.Rows L2

section
variable {X : Cx}
theorem o_mul : OpE X mulD rMul2 := by
  intro B W M H ρ σ d e z x y Q rp hx hy hf h
  unfold mulD at hf
  split at hf
  · split at hf
    · rename_i hc
      cases hf
      exact .inl ⟨_, _, rq_int hx, rq_int hy, hc, post_v h rp (.int _)⟩
    · cases hf
  · split at hf
    · rename_i hc
      cases hf
      obtain ⟨a, vs, e1, l1, t1, r1⟩ := rq_lst hx
      exact .inr ⟨a, _, vs, e1, rq_int hy, t1, hc.1, hc.2.1, by rw [← r1.length]; exact hc.2.2, fun p hp => post_l h rp (r1.rep _) (by rw [repL_length]; exact hc.2.2) hp⟩
    · cases hf
  · cases hf
def repD : D → D → Option D
  | .lst xs, .int k => if -(2 ^ 63) ≤ k ∧ k < 2 ^ 63 ∧ xs.length * k.toNat ≤ sizeLine then some (.lst (repL xs k)) else none
  | _, _ => none
theorem o_rep : OpF X repD rRep := by
  intro B W M H ρ σ d e z x y Q rp hx hy hf h
  unfold repD at hf
  split at hf
  · split at hf
    · rename_i hc
      cases hf
      obtain ⟨a, vs, e1, l1, t1, r1⟩ := rq_lst hx
      exact ⟨a, _, vs, e1, rq_int hy, t1, hc.1, hc.2.1, by rw [← r1.length]; exact hc.2.2, fun p hp => post_o h rp (r1.rep _) (by rw [repL_length]; exact hc.2.2) hp⟩
    · cases hf
  · cases hf
end

/-! ### == -/
mutual
def toPy : D → PyData
  | .non => .none
  | .bl b => .bool b
  | .int i => .int i
  | .str x => .str x
  | .tup ds => .tuple (toPyL ds)
  | .lst ds => .list (toPyL ds)
  | .dct _ => .dict []
  | .exn _ _ => .dict []
  | .scr _ => .dict []
  | .dt _ => .dict []
  | .obj _ _ => .dict []
def toPyL : List D → List PyData
  | [] => []
  | d :: ds => toPy d :: toPyL ds
end
mutual
/-- data that == is told of, at most n deep -/
def okD : Nat → D → Bool
  | _, .non => true
  | _, .bl _ => true
  | _, .int _ => true
  | _, .str _ => true
  | 0, .tup _ => false
  | n + 1, .tup ds => okL n ds
  | 0, .lst _ => false
  | n + 1, .lst ds => okL n ds
  | _, .dct _ => false
  | _, .exn _ _ => false
  | _, .scr _ => false
  | _, .dt _ => false
  | _, .obj _ _ => false
def okL : Nat → List D → Bool
  | _, [] => true
  | n, d :: ds => okD n d && okL n ds
end
theorem toPyL_map : ∀ ds : List D, toPyL ds = ds.map toPy
  | [] => by rw [toPyL]; rfl
  | d :: ds => by rw [toPyL, toPyL_map ds]; rfl
mutual
theorem okD.depth : ∀ (n : Nat) (d : D), okD n d = true → (toPy d).depth ≤ n
  | n, .non, _ => by rw [toPy, PyData.depth] <;> first | exact Nat.zero_le _ | (intros; intro z; cases z)
  | n, .bl _, _ => by rw [toPy, PyData.depth] <;> first | exact Nat.zero_le _ | (intros; intro z; cases z)
  | n, .int _, _ => by rw [toPy, PyData.depth] <;> first | exact Nat.zero_le _ | (intros; intro z; cases z)
  | n, .str _, _ => by rw [toPy, PyData.depth] <;> first | exact Nat.zero_le _ | (intros; intro z; cases z)
  | 0, .tup _, h => by rw [okD] at h; cases h
  | n + 1, .tup ds, h => by
    rw [okD] at h
    rw [toPy, PyData.depth]
    exact Nat.succ_le_succ (okL.depth n ds h)
  | 0, .lst _, h => by rw [okD] at h; cases h
  | n + 1, .lst ds, h => by
    rw [okD] at h
    rw [toPy, PyData.depth]
    exact Nat.succ_le_succ (okL.depth n ds h)
  | n, .dct _, h => by rw [okD] at h; cases h
  | n, .exn _ _, h => by rw [okD] at h; cases h
  | n, .scr _, h => by rw [okD] at h; cases h
  | n, .dt _, h => by rw [okD] at h; cases h
  | n, .obj _ _, h => by rw [okD] at h; cases h
theorem okL.depth : ∀ (n : Nat) (ds : List D), okL n ds = true → PyData.depthAll (toPyL ds) ≤ n
  | n, [], _ => by rw [toPyL, PyData.depthAll]; exact Nat.zero_le _
  | n, d :: ds, h => by
    rw [okL, Bool.and_eq_true] at h
    rw [toPyL, PyData.depthAll]
    exact Nat.max_le.mpr ⟨okD.depth n d h.1, okL.depth n ds h.2⟩
end
section
variable {K : PySem.W.Frag} {M : Addr → Prop} {H : Hp}
mutual
theorem Rp.dp : ∀ (n : Nat) {d : D} {v : V}, okD n d = true → Rp K M H d v → Dp K H v (toPy d) ∧ (toPy d).canLay0 = true
  | n, .non, _, _, r => by cases r; rw [toPy]; exact ⟨.non, by rw [PyData.canLay0]⟩
  | n, .bl _, _, _, r => by cases r; rw [toPy]; exact ⟨.bl _, by rw [PyData.canLay0]⟩
  | n, .int _, _, _, r => by cases r; rw [toPy]; exact ⟨.int _, by rw [PyData.canLay0]⟩
  | n, .str _, _, _, r => by cases r with | str g => rw [toPy]; exact ⟨.str _, by rw [PyData.canLay0]; exact g.2⟩
  | 0, .tup _, _, h, _ => by rw [okD] at h; cases h
  | n + 1, .tup ds, _, h, r => by
    rw [okD] at h
    cases r with
    | tup l h1 h2 =>
      rw [toPy]
      obtain ⟨a, b⟩ := RpL.dp n h h2
      exact ⟨.tup h1 a, by rw [PyData.canLay0]; exact b⟩
  | 0, .lst _, _, h, _ => by rw [okD] at h; cases h
  | n + 1, .lst ds, _, h, r => by
    rw [okD] at h
    cases r with
    | lst l m h1 h2 =>
      rw [toPy]
      obtain ⟨a, b⟩ := RpL.dp n h h2
      exact ⟨.lst (SqL.of h1) a, by rw [PyData.canLay0]; exact b⟩
  | n, .dct _, _, h, _ => by rw [okD] at h; cases h
  | n, .exn _ _, _, h, _ => by rw [okD] at h; cases h
  | n, .scr _, _, h, _ => by rw [okD] at h; cases h
  | n, .dt _, _, h, _ => by rw [okD] at h; cases h
  | n, .obj _ _, _, h, _ => by rw [okD] at h; cases h
theorem RpL.dp : ∀ (n : Nat) {ds : List D} {vs : List V}, okL n ds = true → RpL K M H ds vs → DpAll K H vs (toPyL ds) ∧ PyData.canLayAll0 (toPyL ds) = true
  | n, [], _, _, r => by cases r; rw [toPyL]; exact ⟨.nil, by rw [PyData.canLayAll0]⟩
  | n, d :: ds, _, h, r => by
    rw [okL, Bool.and_eq_true] at h
    cases r with
    | cons r1 r2 =>
      obtain ⟨a1, b1⟩ := Rp.dp n h.1 r1
      obtain ⟨a2, b2⟩ := RpL.dp n h.2 r2
      rw [toPyL]
      exact ⟨.cons a1 a2, by rw [PyData.canLayAll0, b1, b2]; rfl⟩
end
theorem Rq.dp {n : Nat} {d : D} {v : V} (h : okD n d = true) (r : Rq K M H d v) : Dp K H v (toPy d) ∧ (toPy d).canLay0 = true := by
  cases d with
  | lst ds =>
    obtain ⟨l, a, vs, rfl, h1, h2⟩ := r
    cases n with
    | zero => rw [okD] at h; cases h
    | succ n =>
      rw [okD] at h
      obtain ⟨a, b⟩ := RpL.dp n h h2
      rw [toPy]
      exact ⟨.lst (SqL.of h1) a, by rw [PyData.canLay0]; exact b⟩
  | dct ds => rw [okD] at h; cases h
  | dt ds => rw [okD] at h; cases h
  | obj ds kvs => rw [okD] at h; cases h
  | _ => exact Rp.dp n h r
end
def eqD (d e : D) : Bool := PyData.eqv (toPy d) (toPy e)
def eqO (d e : D) : Option D := match d, e with
  | .tup ds, .tup [] => some (.bl ds.isEmpty)
  | d, e => if okD 60 d = true ∧ okD 60 e = true then some (.bl (eqD d e)) else none
def neO (d e : D) : Option D := match d, e with
  | .tup ds, .tup [] => some (.bl (!ds.isEmpty))
  | d, e => if okD 60 d = true ∧ okD 60 e = true then some (.bl (!eqD d e)) else none
section
variable {X : Cx}
/-- a tuple and an empty one -/
def rEq0 (K : PySem.W.Frag) : R2 := fun x y H Q => ∃ a b xs, x = .ref a ∧ y = .ref b ∧ SqT K H a xs ∧ SqT K H b [] ∧ Q (.bl xs.isEmpty) H
def rNe0 (K : PySem.W.Frag) : R2 := fun x y H Q => ∃ a b xs, x = .ref a ∧ y = .ref b ∧ SqT K H a xs ∧ SqT K H b [] ∧ Q (.bl (!xs.isEmpty)) H
theorem op_eq0 (c : Cd X) : OpR X (compareOp .Eq) (rEq0 X.K) := by
  intro pins s σ H x y v u Q I rx ry h
  obtain ⟨a, b, xs, rfl, rfl, h1, h2, q⟩ := h
  cases rx
  cases ry
  obtain ⟨its, r1, t1, _⟩ := I.tuple h1
  obtain ⟨its2, r2, t2, _⟩ := I.tuple h2
  cases r2
  refine SeqAt.eq_tupleAt (e := fun _ => true) t1 t2 (Nat.lt_of_le_of_lt (Nat.le_add_right _ _) c.units) (fun j _ h2 => absurd h2 (by simp)) (fin_bl I q ?_)
  cases r1 <;> simp
theorem op_ne0 (c : Cd X) : OpR X (compareOp .NotEq) (rNe0 X.K) := by
  intro pins s σ H x y v u Q I rx ry h
  obtain ⟨a, b, xs, rfl, rfl, h1, h2, q⟩ := h
  cases rx
  cases ry
  obtain ⟨its, r1, t1, _⟩ := I.tuple h1
  obtain ⟨its2, r2, t2, _⟩ := I.tuple h2
  cases r2
  refine (SeqAt.RcNeAt.tuples (e := fun _ => true) t1 t2 (Nat.lt_of_le_of_lt (Nat.le_add_right _ _) c.units) (fun j _ h2 => absurd h2 (by simp))) _ _ _ _ (fin_bl I q ?_)
  cases r1 <;> simp
def rEq2 (K : PySem.W.Frag) : R2 := fun x y H Q => rEqD K x y H Q ∨ rEq0 K x y H Q
def rNe2 (K : PySem.W.Frag) : R2 := fun x y H Q => rNeD K x y H Q ∨ rNe0 K x y H Q
theorem op_eq2 (c : Cd X) : OpR X (compareOp .Eq) (rEq2 X.K) := (op_eqD c.units).or (op_eq0 c)
theorem op_ne2 (c : Cd X) : OpR X (compareOp .NotEq) (rNe2 X.K) := (op_neD c.units).or (op_ne0 c)
theorem shaped_of {n : Nat} {d : D} (h : okD n d = true) (hn : n ≤ 64) (c : (toPy d).canLay0 = true) : SeqAt.shaped (toPy d) = true := by
  unfold SeqAt.shaped
  rw [c, decide_eq_true (Nat.le_trans (okD.depth n d h) hn)]
  rfl
theorem o_eq : OpE X eqO (rEq2 X.K) := by
  intro B W M H ρ σ d e z x y Q rp hx hy hf h
  unfold eqO at hf
  split at hf
  · cases hf
    obtain ⟨a, vs, e1, l1, t1, r1⟩ := rq_tup hx
    obtain ⟨b, ws, e2, l2, t2, r2⟩ := rq_tup hy
    cases r2
    refine .inr ⟨a, b, vs, e1, e2, t1, t2, ?_⟩
    have e : ∀ {ds : List D}, RpL X.K M H ds vs → vs.isEmpty = ds.isEmpty := fun r => by cases r <;> rfl
    rw [e r1]
    exact post_v h rp (.bl _)
  · split at hf
    · rename_i hc
      cases hf
      obtain ⟨d1, c1⟩ := hx.dp hc.1
      obtain ⟨d2, c2⟩ := hy.dp hc.2
      exact .inl ⟨_, _, d1, d2, shaped_of hc.1 (by decide) c1, shaped_of hc.2 (by decide) c2, post_v h rp (.bl _)⟩
    · cases hf
theorem o_ne : OpE X neO (rNe2 X.K) := by
  intro B W M H ρ σ d e z x y Q rp hx hy hf h
  unfold neO at hf
  split at hf
  · cases hf
    obtain ⟨a, vs, e1, l1, t1, r1⟩ := rq_tup hx
    obtain ⟨b, ws, e2, l2, t2, r2⟩ := rq_tup hy
    cases r2
    refine .inr ⟨a, b, vs, e1, e2, t1, t2, ?_⟩
    have e : ∀ {ds : List D}, RpL X.K M H ds vs → vs.isEmpty = ds.isEmpty := fun r => by cases r <;> rfl
    rw [e r1]
    exact post_v h rp (.bl _)
  · split at hf
    · rename_i hc
      cases hf
      obtain ⟨d1, c1⟩ := hx.dp hc.1
      obtain ⟨d2, c2⟩ := hy.dp hc.2
      exact .inl ⟨_, _, d1, d2, shaped_of hc.1 (by decide) c1, shaped_of hc.2 (by decide) c2, post_v h rp (.bl _)⟩
    · cases hf

/-! ### is: the right side None, True or False -/
def isNon : D → Bool
  | .non => true
  | _ => false
def isBl (b : Bool) : D → Bool
  | .bl a => a == b
  | _ => false
def isD (d e : D) : Option D := match e with
  | .non => some (.bl (isNon d))
  | .bl b => some (.bl (isBl b d))
  | _ => none
def isntD (d e : D) : Option D := match e with
  | .non => some (.bl (!isNon d))
  | .bl b => some (.bl (!isBl b d))
  | _ => none
def constV : V → Bool
  | .non => true
  | .bl _ => true
  | _ => false
def noTy : V → Prop
  | .ty _ => False
  | _ => True
def rIs : R2 := fun x y H Q => constV y = true ∧ noTy x ∧ Q (.bl (decide (x = y))) H
theorem plain_const {x y : V} {v u : Value} (h : constV y = true) (hx : noTy x) (rx : RelV x v) (ry : RelV y u) : plainIs v u = true ∧ (v == u) = decide (x = y) := by
  cases y with
  | non =>
    cases ry
    cases x with
    | non => cases rx; exact ⟨rfl, rfl⟩
    | bl _ => cases rx; exact ⟨rfl, rfl⟩
    | int _ => obtain ⟨t, rfl⟩ := rx; exact ⟨rfl, rfl⟩
    | str _ => obtain ⟨t, rfl⟩ := rx; exact ⟨rfl, rfl⟩
    | byt _ => obtain ⟨t, rfl⟩ := rx; exact ⟨rfl, rfl⟩
    | flt _ => obtain ⟨t, rfl⟩ := rx; exact ⟨rfl, rfl⟩
    | ref _ => cases rx; exact ⟨rfl, rfl⟩
    | ty _ => exact hx.elim
  | bl b =>
    cases ry
    cases x with
    | non => cases rx; exact ⟨rfl, rfl⟩
    | bl a =>
      cases rx
      refine ⟨rfl, ?_⟩
      cases a <;> cases b <;> rfl
    | int _ => obtain ⟨t, rfl⟩ := rx; exact ⟨rfl, rfl⟩
    | str _ => obtain ⟨t, rfl⟩ := rx; exact ⟨rfl, rfl⟩
    | byt _ => obtain ⟨t, rfl⟩ := rx; exact ⟨rfl, rfl⟩
    | flt _ => obtain ⟨t, rfl⟩ := rx; exact ⟨rfl, rfl⟩
    | ref _ => cases rx; exact ⟨rfl, rfl⟩
    | ty _ => exact hx.elim
  | _ => cases h
theorem op_isC : OpR X (compareOp .Is) rIs := by
  intro pins s σ H x y v u Q I rx ry h
  obtain ⟨h1, h2, q⟩ := h
  obtain ⟨p, e⟩ := plain_const h1 h2 rx ry
  exact wpAny_is_plain p (fin_bl I q e.symm)
theorem rq_noty {K : PySem.W.Frag} {M : Addr → Prop} {H : Hp} {d : D} {v : V} (h : Rq K M H d v) : noTy v := by
  cases d with
  | lst ds => obtain ⟨_, a, _, rfl, _⟩ := h; trivial
  | dct ds => obtain ⟨_, a, _, rfl, _⟩ := h; trivial
  | dt ds => obtain ⟨_, a, _, rfl, _⟩ := h; trivial
  | obj ds kvs => obtain ⟨_, a, _, _, _, _, rfl, _⟩ := h; trivial
  | _ => cases h <;> trivial
theorem rq_const {K : PySem.W.Frag} {M : Addr → Prop} {H : Hp} {d : D} {v : V} (h : Rq K M H d v) : (decide (v = .non) = isNon d) ∧ ∀ b : Bool, decide (v = .bl b) = isBl b d := by
  cases d with
  | lst ds => obtain ⟨_, a, _, rfl, _⟩ := h; exact ⟨rfl, fun _ => rfl⟩
  | dct ds => obtain ⟨_, a, _, rfl, _⟩ := h; exact ⟨rfl, fun _ => rfl⟩
  | dt ds => obtain ⟨_, a, _, rfl, _⟩ := h; exact ⟨rfl, fun _ => rfl⟩
  | obj ds kvs => obtain ⟨_, a, _, _, _, _, rfl, _⟩ := h; exact ⟨rfl, fun _ => rfl⟩
  | bl a =>
    cases h
    refine ⟨rfl, fun b => ?_⟩
    cases a <;> cases b <;> rfl
  | _ => cases h <;> exact ⟨rfl, fun _ => rfl⟩
theorem o_is : OpE X isD rIs := by
  intro B W M H ρ σ d e z x y Q rp hx hy hf h
  obtain ⟨k1, k2⟩ := rq_const hx
  cases e with
  | non =>
    cases hf
    cases (rq_non hy)
    refine ⟨rfl, rq_noty hx, ?_⟩
    rw [k1]
    exact post_v h rp (.bl _)
  | bl b =>
    cases hf
    cases (rq_bl hy)
    refine ⟨rfl, rq_noty hx, ?_⟩
    rw [k2]
    exact post_v h rp (.bl _)
  | _ => cases hf
/-! ### in -/
/-- one text within another -/
def inS (a b : Str) : Bool := !(Builtin.Str.occurrences b a 0 b.length 1).isEmpty
theorem inS_sign (c : Nat) (z : Str) : inS ⟨#[c]⟩ z = decide (c ∈ z.cps.toList) := PySem.StrLaws.found_one z c
def rInA (K : PySem.W.Frag) (neg : Bool) : R2 := fun x y H Q => ∃ p xs d ds, y = .ref p ∧ (SqL K H p xs ∨ SqT K H p xs) ∧ Dp K H x d ∧ DpAll K H xs ds ∧ SeqAt.shaped d = true ∧ PyData.canLayAll0 ds = true ∧ d.depth ≤ 60 ∧
  Q (.bl (if neg then !ds.any (fun z => PyData.eqv z d) else ds.any fun z => PyData.eqv z d)) H
theorem op_inA (c : Cd X) : OpR X (compareOp .In) (rInA X.K false) := by
  intro pins s σ H x y v u Q I rx ry h
  obtain ⟨p, xs, d, ds, rfl, hq, dx, dl, sx, cl, hd, q⟩ := h
  obtain ⟨as, r1⟩ := Dp.reads I d x v dx rx
  have hu : X.A.units + 1 + min (PyData.depthAll ds) d.depth < cLine := by
    have := c.units
    have h2 : min (PyData.depthAll ds) d.depth ≤ d.depth := Nat.min_le_right _ _
    omega
  rcases hq with hq | hq
  · obtain ⟨bs, r2⟩ := Dp.reads I (.list ds) (.ref p) u (.lst hq dl) ry
    exact SeqAt.in_list_reads r2 r1 cl (SeqAt.canLay_of_shaped sx) hu ⟨.bl _, H, I, rfl, q⟩
  · obtain ⟨bs, r2⟩ := Dp.reads I (.tuple ds) (.ref p) u (.tup hq dl) ry
    exact SeqAt.in_tuple_reads r2 r1 cl (SeqAt.canLay_of_shaped sx) hu ⟨.bl _, H, I, rfl, q⟩
theorem op_notInA (c : Cd X) : OpR X (compareOp .NotIn) (rInA X.K true) := by
  intro pins s σ H x y v u Q I rx ry h
  obtain ⟨p, xs, d, ds, rfl, hq, dx, dl, sx, cl, hd, q⟩ := h
  obtain ⟨as, r1⟩ := Dp.reads I d x v dx rx
  have hu : X.A.units + 1 + min (PyData.depthAll ds) d.depth < cLine := by
    have := c.units
    have h2 : min (PyData.depthAll ds) d.depth ≤ d.depth := Nat.min_le_right _ _
    omega
  rcases hq with hq | hq
  · obtain ⟨bs, r2⟩ := Dp.reads I (.list ds) (.ref p) u (.lst hq dl) ry
    exact SeqAt.notIn_list_reads r2 r1 cl (SeqAt.canLay_of_shaped sx) hu ⟨.bl _, H, I, rfl, q⟩
  · obtain ⟨bs, r2⟩ := Dp.reads I (.tuple ds) (.ref p) u (.tup hq dl) ry
    exact SeqAt.notIn_tuple_reads r2 r1 cl (SeqAt.canLay_of_shaped sx) hu ⟨.bl _, H, I, rfl, q⟩
def rInS (neg : Bool) : R2 := fun x y H Q => ∃ i j, x = .str i ∧ y = .str j ∧ Q (.bl (if neg then !inS i j else inS i j)) H
theorem op_inSt : OpR X (compareOp .In) (rInS false) := fun pins s σ H x y v u Q I rx ry h => op_in_str pins s σ H x y v u Q I rx ry h
theorem op_notInSt : OpR X (compareOp .NotIn) (rInS true) := fun pins s σ H x y v u Q I rx ry h => L2.op_notIn_str pins s σ H x y v u Q I rx ry h
/-- a key in a dict -/
def rInK (neg : Bool) : R2 := fun x y H Q => ∃ a k kvs, y = .ref a ∧ H a = some (.dK kvs) ∧ x = kV k ∧ Q (.bl (if neg then !(valV kvs k).isSome else (valV kvs k).isSome)) H
theorem op_inK (c : Cd X) : OpR X (compareOp .In) (rInK false) := by
  intro pins s σ H x y v u Q I rx ry h
  obtain ⟨a, k, kvs, rfl, ha, rfl, q⟩ := h
  cases ry
  exact d_in (by have := c.units; omega) I (DGet.k ha) rx fun s' I' => ⟨.bl _, H, I', rfl, q⟩
theorem op_notInK (c : Cd X) : OpR X (compareOp .NotIn) (rInK true) := by
  intro pins s σ H x y v u Q I rx ry h
  obtain ⟨a, k, kvs, rfl, ha, rfl, q⟩ := h
  cases ry
  exact d_notIn (by have := c.units; omega) I (DGet.k ha) rx fun s' I' => ⟨.bl _, H, I', rfl, q⟩
def rInAll (K : PySem.W.Frag) (neg : Bool) : R2 := fun x y H Q => rInA K neg x y H Q ∨ (rInS neg x y H Q ∨ rInK neg x y H Q)
theorem op_in (c : Cd X) : OpR X (compareOp .In) (rInAll X.K false) := (op_inA c).or (op_inSt.or (op_inK c))
theorem op_notIn (c : Cd X) : OpR X (compareOp .NotIn) (rInAll X.K true) := (op_notInA c).or (op_notInSt.or (op_notInK c))
def lookD (kvs : List (Key × D)) (k : Key) : Option D := (kvs.find? fun kv => decide (kv.1 = k)).map (·.2)
def anyD (d : D) (ds : List D) : Bool := ds.any fun z => eqD z d
def inB (d e : D) : Option Bool := match d, e with
  | .str a, .str b => some (inS a b)
  | d, .tup ds => if okD 60 d = true ∧ okL 60 ds = true then some (anyD d ds) else none
  | d, .lst ds => if okD 60 d = true ∧ okL 60 ds = true then some (anyD d ds) else none
  | d, .dct kvs => (keyD d).map fun k => (lookD kvs k).isSome
  | _, _ => none
def inD (d e : D) : Option D := (inB d e).map .bl
def notInD (d e : D) : Option D := (inB d e).map fun b => .bl (!b)
theorem RpK.look {K : PySem.W.Frag} {M : Addr → Prop} {H : Hp} (k : Key) : ∀ {ds : List (Key × D)} {vs : List (Key × V)}, RpK K M H ds vs → match lookD ds k with
    | some d => ∃ v, valV vs k = some v ∧ Rp K M H d v
    | none => valV vs k = none
  | [], _, h => by cases h; rfl
  | (j, d) :: ds, _, h => by
    cases h with
    | @cons _ _ _ v vs h1 h2 =>
      have ih := RpK.look k h2
      unfold lookD valV at ih ⊢
      rw [List.find?_cons, List.find?_cons]
      by_cases e : j = k
      · simp only [e, decide_true]
        exact ⟨v, rfl, h1⟩
      · simp only [decide_eq_false e]
        exact ih
theorem RpK.isSome {K : PySem.W.Frag} {M : Addr → Prop} {H : Hp} {k : Key} {ds : List (Key × D)} {vs : List (Key × V)} (h : RpK K M H ds vs) : (valV vs k).isSome = (lookD ds k).isSome := by
  have q := h.look k
  cases e : lookD ds k with
  | none =>
    rw [e] at q
    rw [show valV vs k = none from q]
    rfl
  | some d =>
    rw [e] at q
    obtain ⟨v, q, _⟩ := q
    rw [q]
    rfl
theorem rq_key {K : PySem.W.Frag} {M : Addr → Prop} {H : Hp} {d : D} {v : V} {k : Key} (h : Rq K M H d v) (e : keyD d = some k) : v = kV k := by
  cases d with
  | int i => cases e; exact rq_int h
  | str x => cases e; exact (rq_str h).1
  | _ => cases e
theorem any_py (d : D) (ds : List D) : ((toPyL ds).any fun z => PyData.eqv z (toPy d)) = anyD d ds := by
  rw [toPyL_map, List.any_map]
  rfl
theorem in_some {neg : Bool} {B : Base} {W : WX} {M : Addr → Prop} {H : Hp} {ρ : Env} {σ : St} {d e : D} {b : Bool} {x y : V} {Q : V → Hp → Prop} (rp : Rep X.K B M H ρ σ) (hx : Rq X.K M H d x) (hy : Rq X.K M H e y) (hf : inB d e = some b)
    (h : Post X B W (RelE X.K) M H σ (.ok (.bl (if neg then !b else b)) ρ) Q) : rInAll X.K neg x y H Q := by
  have seq : ∀ (ds : List D) (a : Addr) (vs : List V), y = .ref a → (SqL X.K H a vs ∨ SqT X.K H a vs) → RpL X.K M H ds vs → okD 60 d = true ∧ okL 60 ds = true → b = anyD d ds → rInAll X.K neg x y H Q := by
    intro ds a vs e1 hq r hc eb
    obtain ⟨dx, cx⟩ := hx.dp hc.1
    obtain ⟨dl, cl⟩ := r.dp 60 hc.2
    refine .inl ⟨a, vs, _, _, e1, hq, dx, dl, shaped_of hc.1 (by decide) cx, cl, okD.depth 60 d hc.1, ?_⟩
    rw [any_py, ← eb]
    exact post_v h rp (.bl _)
  unfold inB at hf
  split at hf
  · cases hf
    obtain ⟨e1, _⟩ := rq_str hx
    obtain ⟨e2, _⟩ := rq_str hy
    exact .inr (.inl ⟨_, _, e1, e2, post_v h rp (.bl _)⟩)
  · split at hf
    · rename_i hc
      cases hf
      obtain ⟨a, vs, e1, _, t, r⟩ := rq_tup hy
      exact seq _ a vs e1 (.inr t) r hc rfl
    · cases hf
  · split at hf
    · rename_i hc
      cases hf
      obtain ⟨a, vs, e1, _, t, r⟩ := rq_lst hy
      exact seq _ a vs e1 (.inl (SqL.of t)) r hc rfl
    · cases hf
  · rename_i kvs _
    cases ek : keyD d with
    | none => rw [ek] at hf; cases hf
    | some k =>
      rw [ek] at hf
      cases hf
      obtain ⟨a, vs, e1, _, t, r⟩ := rq_dct hy
      refine .inr (.inr ⟨a, k, vs, e1, t, rq_key hx ek, ?_⟩)
      rw [r.isSome]
      exact post_v h rp (.bl _)
  · cases hf
theorem o_in : OpE X inD (rInAll X.K false) := by
  intro B W M H ρ σ d e z x y Q rp hx hy hf h
  unfold inD at hf
  cases eb : inB d e with
  | none => rw [eb] at hf; cases hf
  | some b =>
    rw [eb] at hf
    cases hf
    exact in_some (neg := false) rp hx hy eb h
theorem o_notIn : OpE X notInD (rInAll X.K true) := by
  intro B W M H ρ σ d e z x y Q rp hx hy hf h
  unfold notInD at hf
  cases eb : inB d e with
  | none => rw [eb] at hf; cases hf
  | some b =>
    rw [eb] at hf
    cases hf
    exact in_some (neg := true) rp hx hy eb h
end
end NV

set_option Elab.async false
set_option linter.all false
set_option maxRecDepth 100000
set_option maxHeartbeats 4000000
/-! Core3c: subscripts, slices, displays, built-in functions. -/
namespace NV
open PySem PySem.Spec PyProof.Rows L2

section
variable {X : Cx} {W : WX}
/-! ### a[b] -/
def rIxK : R2 := fun x y H Q => ∃ a k kvs v, x = .ref a ∧ H a = some (.dK kvs) ∧ y = kV k ∧ valV kvs k = some v ∧ Q v H
theorem ix_key (c : Cd X) : IxR X rIxK := by
  intro value slice pins s σ H x y v u Q I rx ry h hs
  obtain ⟨a, k, kvs, z, rfl, ha, rfl, hv, q⟩ := h
  cases rx
  have g : DGet H a (kV k) (some z) := by rw [← hv]; exact DGet.k ha
  exact tail_any (dict_typeIs I g) PySem.F.slot_dict_getitem.lookup (d_getItem (by have := c.units; omega) I g ry fun w' s' I' rw' => ⟨z, H, I', rw', q⟩) hs
def rIxAll (K : PySem.W.Frag) : R2 := fun x y H Q => rIx K x y H Q ∨ rIxK x y H Q
theorem ix_all (c : Cd X) : IxR X (rIxAll X.K) := ix_seq.or (ix_key c)
def ixD : D → D → Option D
  | .tup xs, .int i => atI xs i
  | .lst xs, .int i => atI xs i
  | .scr xs, .int i => (atI xs i).map .int
  | .str z, .int i => (atI z.cps.toList i).map fun c => .str ⟨#[c]⟩
  | .dct kvs, k => (keyD k).bind fun k => lookD kvs k
  | _, _ => none
theorem RpL.atI {K : PySem.W.Frag} {M : Addr → Prop} {H : Hp} {ds : List D} {vs : List V} {i : Int} {d : D} (h : RpL K M H ds vs) (e : atI ds i = some d) : ∃ v, L2.atI vs i = some v ∧ Rp K M H d v := by
  unfold L2.atI at e ⊢
  rw [← h.length]
  cases hj : ixN ds.length i with
  | none => rw [hj] at e; cases e
  | some j =>
    rw [hj] at e
    obtain ⟨v, q, r⟩ := h.get (i := j) e
    exact ⟨v, q, r⟩
theorem strG_one {z : Str} (g : StrG z) {i : Int} {c : Nat} (e : atI z.cps.toList i = some c) : StrG ⟨#[c]⟩ := by
  refine ⟨by show 1 ≤ sizeLine; decide, ?_⟩
  have h := g.2
  unfold PySem.PyData.strOk at h ⊢
  have hm : c ∈ z.cps.toList := by
    unfold atI at e
    cases hj : ixN z.cps.toList.length i with
    | none => rw [hj] at e; cases e
    | some j =>
      rw [hj] at e
      exact List.mem_of_getElem? e
  rw [Array.all_eq_true_iff_forall_mem] at h
  have := h c (by simpa using hm)
  simpa using this
theorem o_ix : OpE X ixD (rIxAll X.K) := by
  intro B W M H ρ σ d e z x y Q rp hx hy hf h
  unfold ixD at hf
  split at hf
  · obtain ⟨a, vs, e1, _, t, r⟩ := rq_tup hx
    obtain ⟨v, q, r'⟩ := r.atI hf
    exact .inl (.inr (.inl ⟨a, vs, _, v, e1, rq_int hy, t, q, post_v h rp r'⟩))
  · obtain ⟨a, vs, e1, _, t, r⟩ := rq_lst hx
    obtain ⟨v, q, r'⟩ := r.atI hf
    exact .inl (.inl ⟨a, vs, _, v, e1, rq_int hy, SqL.of t, q, post_v h rp r'⟩)
  · rename_i xs i
    obtain ⟨a, e1, _, t⟩ := rq_scr hx
    cases ez : L2.atI xs i with
    | none => rw [ez] at hf; cases hf
    | some n =>
      rw [ez] at hf
      cases hf
      refine .inl (.inl ⟨a, _, i, .int n, e1, rq_int hy, t.sql, ?_, post_v h rp (.int _)⟩)
      unfold L2.atI at ez ⊢
      rw [List.length_map]
      cases hj : ixN xs.length i with
      | none => rw [hj] at ez; cases ez
      | some j =>
        rw [hj] at ez
        have ez : xs[j]? = some n := ez
        show (xs.map V.int)[j]? = _
        rw [List.getElem?_map, ez]
        rfl
  · rename_i z i
    obtain ⟨e1, g⟩ := rq_str hx
    cases ez : L2.atI z.cps.toList i with
    | none => rw [ez] at hf; cases hf
    | some n =>
      rw [ez] at hf
      cases hf
      exact .inl (.inr (.inr ⟨z, i, n, e1, rq_int hy, g.1, ez, post_v h rp (.str (strG_one g ez))⟩))
  · cases ek : keyD e with
    | none => rw [ek] at hf; cases hf
    | some k =>
      rw [ek] at hf
      obtain ⟨a, vs, e1, _, t, r⟩ := rq_dct hx
      simp only [Option.bind_some] at hf
      have q := r.look k
      rw [hf] at q
      obtain ⟨v, q, r'⟩ := q
      exact .inr ⟨a, k, vs, v, e1, t, rq_key hy ek, q, post_v h rp r'⟩
  · cases hf
theorem de_ix {a b : Expr} {ma mb : RM} {pos : Pos} (c : Cd X) (ha : DR X W a ma) (hb : DR X W b mb) (hs : PlainIx b := by exact fun _ _ => rfl) : DE X W (.Subscript a b pos) (eOp2 ixD ma mb) := by
  obtain ⟨ta, pa, sa⟩ := ha
  obtain ⟨tb, pb, sb⟩ := hb
  exact ⟨_, pe_ix (ix_all c) pa pb hs, op2_sat sa sb fun B M H ρ σ d e z x y Q h1 h2 h3 h4 h5 => o_ix B W M H ρ σ d e z x y Q h1 h2 h3 h4 h5⟩

/-! ### slices -/
/-- a slice's part -/
def DO (X : Cx) (W : WX) (e : Option Expr) (m : Env → Res (Option Int)) : Prop := ∃ t, PO X e t ∧ Sat X W (fun _ _ => fun _ _ _ (a b : Option Int) => a = b) t m
def oNo : Env → Res (Option Int) := fun ρ => .ok none ρ
def asI (d : D) (ρ : Env) : Res (Option Int) := match d with
  | .int i => .ok (some i) ρ
  | _ => .bad
def oSome (m : EM) : Env → Res (Option Int) := fun ρ => (m ρ).bind asI
theorem do_none : DO X W none oNo := ⟨_, po_none, fun B M H ρ σ Q rp k => k M H none Ext.refl rp rfl⟩
theorem do_some {e : Expr} {m : EM} (h : DE X W e m) : DO X W (some e) (oSome m) := by
  obtain ⟨t, p, s⟩ := h
  refine ⟨_, po_some p, fun B M H ρ σ Q rp k => s B M H ρ σ _ rp (Post.seq k fun d ρ1 M1 H1 v x1 r1 q1 k1 => ?_)⟩
  cases d with
  | int i =>
    cases q1
    exact ⟨i, rfl, k1 M1 H1 _ Ext.refl r1 rfl⟩
  | _ => exact k1.elim
def cutL {α : Type} (xs : List α) (lo hi : Option Int) : List α := (xs.drop (HT.sIx xs.length 0 lo)).take (HT.sIx xs.length xs.length hi - HT.sIx xs.length 0 lo)
def slD (d : D) (lo hi : Option Int) : Option D := match d with
  | .tup xs => some (.tup (cutL xs lo hi))
  | .lst xs => some (.lst (cutL xs lo hi))
  | .scr xs => some (.lst ((cutL xs lo hi).map .int))
  | .str z => some (.str (cutS z lo hi))
  | _ => none
def rSlAll (K : PySem.W.Frag) : V → Option Int → Option Int → Hp → VK → Prop := fun x lo hi H Q => rSlL K x lo hi H Q ∨ (rSlA K x lo hi H Q ∨ rSlS x lo hi H Q)
theorem sl_all : SlR X (rSlAll X.K) := sl_list.or (sl_tupA.or sl_str)
theorem cut_whole {α : Type} {xs : List α} {lo hi : Option Int} (h : HT.sIx xs.length 0 lo = 0 ∧ HT.sIx xs.length xs.length hi = xs.length) : cutL xs lo hi = xs := by
  unfold cutL
  rw [h.1, h.2]
  simp
theorem cutL_length {α : Type} (xs : List α) (lo hi : Option Int) : (cutL xs lo hi).length ≤ xs.length := by
  unfold cutL
  rw [List.length_take, List.length_drop]
  omega
theorem RpL.cut {K : PySem.W.Frag} {M : Addr → Prop} {H : Hp} {ds : List D} {vs : List V} (h : RpL K M H ds vs) (lo hi : Option Int) : RpL K M H (cutL ds lo hi) (cutV vs lo hi) := by
  unfold cutL cutV
  rw [← h.length]
  exact (h.drop _).take _
theorem cutL_map {α β : Type} (f : α → β) (xs : List α) (lo hi : Option Int) : cutL (xs.map f) lo hi = (cutL xs lo hi).map f := by
  unfold cutL
  rw [List.length_map, List.map_take, List.map_drop]
theorem rpL_ints {K : PySem.W.Frag} {M : Addr → Prop} {H : Hp} : ∀ xs : List Int, RpL K M H (xs.map D.int) (xs.map V.int)
  | [] => .nil
  | x :: xs => .cons (.int x) (rpL_ints xs)
theorem strG_sub {z y : Str} (g : StrG z) (hl : y.cps.toList.length ≤ z.cps.toList.length) (hm : ∀ c ∈ y.cps.toList, c ∈ z.cps.toList) : StrG y := by
  refine ⟨?_, ?_⟩
  · have h : z.cps.size ≤ sizeLine := g.1
    show y.cps.size ≤ sizeLine
    rw [Array.length_toList, Array.length_toList] at hl
    exact Nat.le_trans hl h
  · have h := g.2
    unfold PySem.PyData.strOk at h ⊢
    rw [Array.all_eq_true_iff_forall_mem] at h ⊢
    exact fun x hx => h x (Array.mem_def.mpr (hm x (Array.mem_def.mp hx)))
theorem strG_cut {z : Str} (g : StrG z) (lo hi : Option Int) : StrG (cutS z lo hi) := by
  refine strG_sub g (by rw [Array.length_toList, Array.length_toList]; exact cutS_length z lo hi) fun c hc => ?_
  unfold cutS at hc
  exact List.mem_of_mem_drop (List.mem_of_mem_take (by simpa using hc))
/-- a[lo:hi] -/
def eSl (m : RM) (lo hi : Env → Res (Option Int)) : EM := fun ρ => (m ρ).bind fun x ρ1 => (lo ρ1).bind fun l ρ2 => (hi ρ2).bind fun h ρ3 => (ofO (x.get ρ3) ρ3).bind fun d _ => ofO (slD d l h) ρ3
theorem sl_sat {te : TE} {tl th : TO} {m : RM} {lo hi : Env → Res (Option Int)} {R : Base → St → (Addr → Prop) → Hp → Env → D → V → Prop} {r : V → Option Int → Option Int → Hp → VK → Prop} {f : D → Option Int → Option Int → Option D}
    (s : Sat X W (fun _ σ => RelR X.K σ) te m) (sl : Sat X W (fun _ _ => fun _ _ _ (a b : Option Int) => a = b) tl lo) (sh : Sat X W (fun _ _ => fun _ _ _ (a b : Option Int) => a = b) th hi)
    (h : ∀ (B : Base) (M : Addr → Prop) (H : Hp) (ρ : Env) (σ : St) (d z : D) (l u : Option Int) (x : V) (Q : V → Hp → Prop), Rep X.K B M H ρ σ → Rq X.K M H d x → f d l u = some z → Post X B W (R B σ) M H σ (.ok z ρ) Q → r x l u H Q) :
    Sat X W R (tSl r te tl th) (fun ρ => (m ρ).bind fun x ρ1 => (lo ρ1).bind fun l ρ2 => (hi ρ2).bind fun h ρ3 => (ofO (x.get ρ3) ρ3).bind fun d _ => ofO (f d l h) ρ3) := by
  intro B M H ρ σ Q rp k
  refine s B M H ρ σ _ rp (Post.seq k fun x ρ1 M1 H1 v x1 r1 q1 k1 => ?_)
  refine sl B M1 H1 ρ1 σ _ r1 (Post.seq k1 fun l ρ2 M2 H2 l' x2 r2 q2 k2 => ?_)
  cases q2
  refine sh B M2 H2 ρ2 σ _ r2 (Post.seq k2 fun u ρ3 M3 H3 u' x3 r3 q3 k3 => ?_)
  cases q3
  cases ex : x.get ρ3 with
  | none => rw [ex] at k3; exact k3.elim
  | some d =>
    rw [ex] at k3
    cases ez : f d l u with
    | none => simp only [ofO, Res.bind, ez] at k3; exact k3.elim
    | some z =>
      simp only [ofO, Res.bind, ez] at k3
      exact h B M3 H3 ρ3 σ d z l u v Q r3 (q1.rq (x2.trans x3) r3 ex) ez k3
theorem de_sl {e : Expr} {lo hi : Option Expr} {m : RM} {ml mh : Env → Res (Option Int)} {p2 pos : Pos} (he : DR X W e m) (hl : DO X W lo ml) (hh : DO X W hi mh) : DE X W (.Subscript e (.Slice lo hi none p2) pos) (eSl m ml mh) := by
  obtain ⟨t, p, s⟩ := he
  obtain ⟨tl, pl, sl⟩ := hl
  obtain ⟨th, ph, sh⟩ := hh
  refine ⟨_, pe_slice sl_all p pl ph, sl_sat (f := slD) s sl sh fun B M H ρ σ d z l u x Q rp hx hf k => ?_⟩
  unfold slD at hf
  split at hf
  · cases hf
    obtain ⟨a, vs, e1, l1, t1, r1⟩ := rq_tup hx
    refine .inr (.inl ⟨a, vs, e1, t1, fun hw => ?_, fun _ p hp => post_t k rp (r1.cut l u) (Nat.le_trans (cutL_length _ _ _) l1) hp⟩)
    rw [← r1.length] at hw
    rw [cut_whole hw] at k
    exact post_v k rp (.tup l1 t1 r1)
  · cases hf
    obtain ⟨a, vs, e1, l1, t1, r1⟩ := rq_lst hx
    exact .inl ⟨a, vs, e1, SqL.of t1, fun p hp => post_l k rp (r1.cut l u) (Nat.le_trans (cutL_length _ _ _) l1) hp⟩
  · cases hf
    rename_i xs
    obtain ⟨a, e1, l1, t1⟩ := rq_scr hx
    refine .inl ⟨a, _, e1, t1.sql, fun p hp => ?_⟩
    have q := post_l k rp (vs := (cutL xs l u).map V.int) (p := p) (rpL_ints _) (by rw [List.length_map]; exact Nat.le_trans (cutL_length _ _ _) l1) hp
    rw [← cutL_map] at q
    exact q
  · cases hf
    obtain ⟨e1, g⟩ := rq_str hx
    exact .inr (.inr ⟨_, e1, g.1, post_v k rp (.str (strG_cut g l u))⟩)
  · cases hf
/-! ### displays -/
abbrev RelL (K : PySem.W.Frag) : (Addr → Prop) → Hp → Env → List D → List V → Prop := fun M H _ ds vs => RpL K M H ds vs
def DL (X : Cx) (W : WX) (es : List Expr) (m : Env → Res (List D)) : Prop := ∃ t, PA X es t ∧ Sat X W (fun _ _ => RelL X.K) t m
def lNil : Env → Res (List D) := fun ρ => .ok [] ρ
def lCons (m : EM) (ms : Env → Res (List D)) : Env → Res (List D) := fun ρ => (m ρ).bind fun d ρ1 => (ms ρ1).bind fun ds ρ2 => .ok (d :: ds) ρ2
theorem dl_nil : DL X W [] lNil := ⟨_, pa_nil, fun B M H ρ σ Q rp k => k M H [] Ext.refl rp .nil⟩
theorem dl_cons {e : Expr} {es : List Expr} {m : EM} {ms : Env → Res (List D)} (h : DE X W e m) (hs : DL X W es ms) (ha : starEach (e :: es) X.env = (false, eval e X.env) :: starEach es X.env := by rfl) : DL X W (e :: es) (lCons m ms) := by
  obtain ⟨t, p, s⟩ := h
  obtain ⟨ts, ps, ss⟩ := hs
  refine ⟨_, pa_cons p ps ha, fun B M H ρ σ Q rp k => s B M H ρ σ _ rp (Post.seq k fun d ρ1 M1 H1 v x1 r1 q1 k1 => ?_)⟩
  refine ss B M1 H1 ρ1 σ _ r1 (Post.seq k1 fun ds ρ2 M2 H2 vs x2 r2 q2 k2 => ?_)
  exact k2 M2 H2 _ Ext.refl r2 (.cons (Rp.ext x2 q1) q2)
def eTup (m : Env → Res (List D)) : EM := fun ρ => (m ρ).bind fun ds ρ1 => if ds.length ≤ sizeLine then .ok (.tup ds) ρ1 else .bad
def eLst (m : Env → Res (List D)) : EM := fun ρ => (m ρ).bind fun ds ρ1 => if ds.length ≤ sizeLine then .ok (.lst ds) ρ1 else .bad
theorem de_tup {es : List Expr} {m : Env → Res (List D)} {x1 pos} (h : DL X W es m) : DE X W (.Tuple es x1 pos) (eTup m) := by
  obtain ⟨t, p, s⟩ := h
  refine ⟨_, pe_tup p, fun B M H ρ σ Q rp k => s B M H ρ σ _ rp (Post.seq k fun ds ρ1 M1 H1 vs x1 r1 q1 k1 => ?_)⟩
  split at k1
  · rename_i hl
    exact ⟨by rw [← q1.length]; exact hl, fun p hp => post_t k1 r1 q1 hl hp⟩
  · exact k1.elim
theorem df_lst {es : List Expr} {m : Env → Res (List D)} {pos} (h : DL X W es m) : DF X W (.List es pos) (eLst m) := by
  obtain ⟨t, p, s⟩ := h
  refine ⟨_, pe_lst p, fun B M H ρ σ Q rp k => s B M H ρ σ _ rp (Post.seq k fun ds ρ1 M1 H1 vs x1 r1 q1 k1 => ?_)⟩
  split at k1
  · rename_i hl
    exact ⟨by rw [← q1.length]; exact hl, fun p hp => post_o k1 r1 q1 hl hp⟩
  · exact k1.elim
/-! ### built-in functions -/
def aNil : AM := fun ρ => .ok [] ρ
def aCons (m : RM) (ms : AM) : AM := fun ρ => (m ρ).bind fun d ρ1 => (ms ρ1).bind fun ds ρ2 => .ok (d :: ds) ρ2
theorem da_nil : DA X W [] aNil := ⟨_, pa_nil, fun B M H ρ σ Q rp k => k M H [] Ext.refl rp .nil⟩
theorem da_cons {e : Expr} {es : List Expr} {m : RM} {ms : AM} (h : DR X W e m) (hs : DA X W es ms) (ha : starEach (e :: es) X.env = (false, eval e X.env) :: starEach es X.env := by rfl) : DA X W (e :: es) (aCons m ms) := by
  obtain ⟨t, p, s⟩ := h
  obtain ⟨ts, ps, ss⟩ := hs
  refine ⟨_, pa_cons p ps ha, fun B M H ρ σ Q rp k => s B M H ρ σ _ rp (Post.seq k fun d ρ1 M1 H1 v x1 r1 q1 k1 => ?_)⟩
  refine ss B M1 H1 ρ1 σ _ r1 (Post.seq k1 fun ds ρ2 M2 H2 vs x2 r2 q2 k2 => ?_)
  exact k2 M2 H2 _ Ext.refl r2 (.cons (RelR.ext x2 q1) q2)
def getAll (ρ : Env) : List RV → Option (List D)
  | [] => some []
  | r :: rs => match r.get ρ, getAll ρ rs with
    | some d, some ds => some (d :: ds)
    | _, _ => none
def eCallB (f : List D → Option D) (ma : AM) : EM := fun ρ => (ma ρ).bind fun rs ρ1 => (ofO (getAll ρ1 rs) ρ1).bind fun ds _ => ofO (f ds) ρ1
/-- what a built-in's rule asks is served by f -/
def CallE (X : Cx) (f : List D → Option D) (r : List V → Hp → VK → Prop) : Prop :=
  ∀ (B : Base) (W : WX) (M : Addr → Prop) (H : Hp) (ρ : Env) (σ : St) (ds : List D) (z : D) (xs : List V) (Q : V → Hp → Prop), Rep X.K B M H ρ σ → Paired (Rq X.K M H) ds xs → f ds = some z → Post X B W (RelE X.K) M H σ (.ok z ρ) Q → r xs H Q
theorem rqs_of {B : Base} {M : Addr → Prop} {H : Hp} {ρ ρ' : Env} {σ : St} (rp : Rep X.K B M H ρ σ) : ∀ {rs : List RV} {vs : List V} {ds : List D}, Paired (fun r v => RelR X.K σ M H ρ' r v) rs vs → getAll ρ rs = some ds → Paired (Rq X.K M H) ds vs
  | [], _, ds, h, e => by cases h; cases e; exact .nil
  | r :: rs, _, ds, h, e => by
    cases h with
    | cons h1 h2 =>
      unfold getAll at e
      cases e1 : r.get ρ with
      | none => rw [e1] at e; cases e
      | some d =>
        rw [e1] at e
        cases e2 : getAll ρ rs with
        | none => rw [e2] at e; cases e
        | some ds' =>
          rw [e2] at e
          cases e
          exact .cons (RelR.rq (ρ := ρ') h1 Ext.refl rp e1) (rqs_of rp h2 e2)
theorem callB_sat {ta : TA} {ma : AM} {f : List D → Option D} {r : List V → Hp → VK → Prop} {R : Base → St → (Addr → Prop) → Hp → Env → D → V → Prop} (s : Sat X W (fun _ σ => RelA X.K σ) ta ma)
    (h : ∀ (B : Base) (M : Addr → Prop) (H : Hp) (ρ : Env) (σ : St) (ds : List D) (z : D) (xs : List V) (Q : V → Hp → Prop), Rep X.K B M H ρ σ → Paired (Rq X.K M H) ds xs → f ds = some z → Post X B W (R B σ) M H σ (.ok z ρ) Q → r xs H Q) :
    Sat X W R (tCB r ta) (eCallB f ma) := by
  intro B M H ρ σ Q rp k
  refine s B M H ρ σ _ rp (Post.seq k fun rs ρ1 M1 H1 vs x1 r1 q1 k1 => ?_)
  cases eg : getAll ρ1 rs with
  | none => rw [eg] at k1; exact k1.elim
  | some ds =>
    rw [eg] at k1
    cases ez : f ds with
    | none => simp only [ofO, Res.bind, ez] at k1; exact k1.elim
    | some z =>
      simp only [ofO, Res.bind, ez] at k1
      exact h B M1 H1 ρ1 σ ds z vs Q r1 (rqs_of r1 q1 eg) ez k1
variable {x : Str} {p pos : Pos} {e : Expr} {es : List Expr} {ma : AM} {f : List D → Option D} {r : List V → Hp → VK → Prop} {id : String}
theorem de_callB (hc : CallR X (.builtin id) r) (hf : CallE X f r) (hg : Gl X x) (hm : X.mg x = none) (hv : bootBuiltins x = some (.builtin id)) (ha : DA X W (e :: es) ma) (hn : x ≠ "__name__" := by decide) (hdb : (x == ("__debug__" : Str)) = false := by decide)
    (he : starEach (e :: es) X.env = (false, eval e X.env) :: starEach es X.env := by rfl) (hpl : (backTo pos (starEach es X.env)).any (·.1) = false := by rfl) : DE X W (.Call (.Name x p) (e :: es) [] pos) (eCallB f ma) := by
  obtain ⟨t, pt, s⟩ := ha
  exact ⟨_, pe_callB hc hg hm hv pt hn hdb he hpl, callB_sat s fun B M H ρ σ ds z xs Q h1 h2 h3 h4 => hf B W M H ρ σ ds z xs Q h1 h2 h3 h4⟩
theorem de_callT (hc : CallR X (.type id) r) (hf : CallE X f r) (hg : Gl X x) (hm : X.mg x = none) (hv : bootBuiltins x = some (.type id)) (ha : DA X W (e :: es) ma) (hn : x ≠ "__name__" := by decide) (hdb : (x == ("__debug__" : Str)) = false := by decide)
    (he : starEach (e :: es) X.env = (false, eval e X.env) :: starEach es X.env := by rfl) (hpl : (backTo pos (starEach es X.env)).any (·.1) = false := by rfl) : DE X W (.Call (.Name x p) (e :: es) [] pos) (eCallB f ma) := by
  obtain ⟨t, pt, s⟩ := ha
  exact ⟨_, pe_callTy hc hg hm hv pt hn hdb he hpl, callB_sat s fun B M H ρ σ ds z xs Q h1 h2 h3 h4 => hf B W M H ρ σ ds z xs Q h1 h2 h3 h4⟩
end
end NV

set_option Elab.async false
set_option linter.all false
set_option maxRecDepth 100000
set_option maxHeartbeats 4000000
/-! Core4: statements, targets, loops, comprehensions. -/
namespace NV
open PySem PySem.Spec PyProof.Rows L2

section
variable {X : Cx} {W : WX} {B : Base} {M M' : Addr → Prop} {H H' : Hp}
end

def SatS (X : Cx) (W : WX) (t : TS) (m : SM) : Prop :=
  ∀ (B : Base) (M : Addr → Prop) (H : Hp) (ρ : Env) (σ : St) (E : Ends), Rep X.K B M H ρ σ → PostS X B W M H (m ρ) E → t E σ H
def DS (X : Cx) (W : WX) (s : Stmt) (m : SM) : Prop := ∃ t, PS X s t ∧ SatS X W t m
def DSs (X : Cx) (W : WX) (s : List Stmt) (m : SM) : Prop := ∃ t, PSs X s t ∧ SatS X W t m

section
variable {X : Cx} {W : WX} {st : Stmt} {rest : List Stmt} {e : Expr} {pos : Pos}
def sNil : SM := fun ρ => .nx ρ
def sSeq (a b : SM) : SM := fun ρ => (a ρ).seq b
theorem dss_nil : DSs X W [] sNil := ⟨_, pss_nil, fun B M H ρ σ E r h => h M H σ Ext.refl r⟩
theorem dss_cons {a b : SM} (h1 : DS X W st a) (h2 : DSs X W rest b) : DSs X W (st :: rest) (sSeq a b) := by
  obtain ⟨t, p, s⟩ := h1
  obtain ⟨u, q, s'⟩ := h2
  exact ⟨_, pss_cons p q, fun B M H ρ σ E r h => s B M H ρ σ _ r (PostS.seq h fun ρ' M' H' σ' _ r' k => s' B M' H' ρ' σ' E r' k)⟩
theorem dss_one {a : SM} (h1 : DS X W st a) : DSs X W [st] a := by
  obtain ⟨t, p, s⟩ := h1
  exact ⟨_, pss_one p, s⟩
def sSet (i : Nat) (m : EM) : SM := fun ρ => (m ρ).out fun d ρ1 => .nx (ρ1.set i (.v d))
def sSetO (i : Nat) (m : EM) : SM := fun ρ => (m ρ).out fun d ρ1 => .nx (ρ1.set i (.o d))
theorem ds_set {i : Nat} {x : Str} {m : EM} {pos' : Pos} (hN : X.N.Nodup) (hi : X.N[i]? = some x) (hx : Loc X.env.scope x) (h : DE X W e m) (hs : swapsWith e (some (.Name x pos')) pos.line X.env = pure false := by rfl) (hf : X.fn x = true ∨ X.env.scope.names.lookup x = some .local := by first | exact .inl rfl | exact .inr rfl | assumption) :
    DS X W (.Assign [.Name x pos'] e pos) (sSet i m) := by
  obtain ⟨t, p, s⟩ := h
  exact ⟨_, ps_set hN hi hx p hs hf, fun B M H ρ σ E r h => s B M H ρ σ _ r (PostS.out h fun d ρ1 M1 H1 v x1 r1 q1 k1 => k1 M1 H1 _ Ext.refl (r1.setV i q1))⟩
theorem ds_setO {i : Nat} {x : Str} {m : EM} {pos' : Pos} (hN : X.N.Nodup) (hi : X.N[i]? = some x) (hx : Loc X.env.scope x) (h : DF X W e m) (hs : swapsWith e (some (.Name x pos')) pos.line X.env = pure false := by rfl) (hf : X.fn x = true ∨ X.env.scope.names.lookup x = some .local := by first | exact .inl rfl | exact .inr rfl | assumption) :
    DS X W (.Assign [.Name x pos'] e pos) (sSetO i m) := by
  obtain ⟨t, p, s⟩ := h
  refine ⟨_, ps_set hN hi hx p hs hf, fun B M H ρ σ E r h => s B M H ρ σ _ r (PostS.out (R := RelF X.K B σ) h fun d ρ1 M1 H1 v x1 r1 q1 k1 => ?_)⟩
  obtain ⟨a, rfl, w, hb, an, np⟩ := q1
  exact k1 M1 H1 _ Ext.refl (r1.setO i w hb an np)
def sRet (m : EM) : SM := fun ρ => (m ρ).out fun d ρ1 => .rt d ρ1
def sRetF (m : EM) : SM := fun ρ => (m ρ).out fun d ρ1 => .rtF d ρ1
def sRetN : SM := fun ρ => .rt .non ρ
theorem ds_ret {m : EM} (h : DE X W e m) : DS X W (.Return (some e) pos) (sRet m) := by
  obtain ⟨t, p, s⟩ := h
  exact ⟨_, ps_ret p, fun B M H ρ σ E r h => s B M H ρ σ _ r (PostS.out h fun d ρ1 M1 H1 v x1 r1 q1 k1 => k1 M1 H1 _ v Ext.refl r1 q1)⟩
theorem ds_retF {m : EM} (h : DF X W e m) : DS X W (.Return (some e) pos) (sRetF m) := by
  obtain ⟨t, p, s⟩ := h
  exact ⟨_, ps_ret p, fun B M H ρ σ E r h => s B M H ρ σ _ r (PostS.out (R := RelF X.K B σ) h fun d ρ1 M1 H1 v x1 r1 q1 k1 => k1 M1 H1 _ v Ext.refl r1 q1)⟩
def sIf (c : TM) (a b : SM) : SM := fun ρ => (c ρ).out fun k ρ1 => if k then a ρ1 else b ρ1
theorem ds_if {c : Expr} {sa sb : List Stmt} {mc : TM} {a b : SM} (hc : DT X W c mc) (ha : DSs X W sa a) (hb : DSs X W sb b) : DS X W (.If c sa sb pos) (sIf mc a b) := by
  obtain ⟨t, p, s⟩ := hc
  obtain ⟨ta, pa, s1⟩ := ha
  obtain ⟨tb, pb, s2⟩ := hb
  refine ⟨_, ps_if p pa pb, fun B M H ρ σ E r h => s B M H ρ σ _ r (PostS.out h fun k ρ1 M1 H1 v x1 r1 q1 k1 => ?_)⟩
  cases q1
  cases k with
  | true => exact iteT (s1 B M1 H1 ρ1 σ E r1 k1)
  | false => exact iteF (s2 B M1 H1 ρ1 σ E r1 k1)
def sDrop (m : EM) : SM := fun ρ => (m ρ).out fun _ ρ1 => .nx ρ1
theorem ds_expr {m : EM} (h : DE X W e m) (hs : swapsWith e none pos.line X.env = pure false := by rfl) : DS X W (.Expr e pos) (sDrop m) := by
  obtain ⟨t, p, s⟩ := h
  exact ⟨_, ps_expr p hs, fun B M H ρ σ E r h => s B M H ρ σ _ r (PostS.out h fun d ρ1 M1 H1 v x1 r1 q1 k1 => k1 M1 H1 _ Ext.refl r1)⟩

/-! ### owned objects are changed -/
def ownGet (ρ : Env) (i : Nat) : Option D := (RV.own i).get ρ
theorem own_at {K : PySem.W.Frag} {B : Base} {M : Addr → Prop} {H : Hp} {ρ : Env} {σ : St} {i : Nat} {d : D} (r : Rep K B M H ρ σ) (h : ownGet ρ i = some d) :
    ∃ a s, ρ[i]? = some s ∧ isOwn s = true ∧ σ[i]? = some (some (V.ref a)) ∧ Ow K M H d a ∧ ∀ d', ownSet ρ i d' = ρ.set i (reSlot s d') := by
  unfold ownGet at h
  cases e : ρ[i]? with
  | none => simp only [RV.get, e] at h; cases h
  | some s =>
    simp only [RV.get, e] at h
    cases s with
    | no => cases h
    | v d => cases h
    | o d1 =>
      cases h
      obtain ⟨a, e1, w, _⟩ := r.slot i _ e
      exact ⟨a, _, rfl, rfl, join_of e1, w, fun d' => by unfold ownSet; rw [e]; rfl⟩
    | p d1 =>
      cases h
      obtain ⟨a, e1, w, _⟩ := r.slot i _ e
      exact ⟨a, _, rfl, rfl, join_of e1, w, fun d' => by unfold ownSet; rw [e]; rfl⟩
/-- what a method's rule asks is served by f: the new content, the answer -/
def MutE (X : Cx) (f : D → List D → Option (D × D)) (r : V → List V → Hp → VK → Prop) : Prop :=
  ∀ (M : Addr → Prop) (H : Hp) (a : Addr) (d d' z : D) (ds : List D) (xs : List V) (Q : V → Hp → Prop), Ow X.K M H d a → RpL X.K M H ds xs → f d ds = some (d', z) →
    (∀ (u : HO) (v : V), Ow X.K M (upd H a u) d' a → toldOf u = none → (∀ H', Ext M H M H' → Rp X.K M H' z v) → Q v (upd H a u)) → r (.ref a) xs H Q
def eMut (i : Nat) (ok : D → Bool) (f : D → List D → Option (D × D)) (ml : Env → Res (List D)) : EM := fun ρ => (ofO (ownGet ρ i) ρ).bind fun d0 _ => if ok d0 then (ml ρ).bind fun ds ρ1 => (ofO (ownGet ρ1 i) ρ1).bind fun d _ =>
  (ofO (f d ds) ρ1).bind fun r _ => .ok r.2 (ownSet ρ1 i r.1) else .bad
def isLst : D → Bool
  | .lst _ => true
  | _ => false
theorem de_mut {i : Nat} {x : Str} {px apos cpos : Pos} {f : D → List D → Option (D × D)} {r : V → List V → Hp → VK → Prop} {ml : Env → Res (List D)} {es : List Expr} {name : Str} {id : String} (hv : PE X (.Name x px) (tVar i))
    (slot : PySem.Slot "list" name id) (hty : typeOf (.builtin id) = pure (.type "method_descriptor")) (hm : MtR X id r) (hf : MutE X f r) (ha : DL X W (e :: es) ml)
    (hbase : attributeBase (.Name x px) name X.env (eval (.Name x px) X.env) = eval (.Name x px) X.env := by rfl)
    (hfew : ((backTo cpos (starEach (e :: es) X.env)).all (fun x => !x.1) && (backToKw cpos (keywordEach [] X.env)).all (fun x => x.1.isSome)
      && decide ((e :: es).length + ([] : List Keyword).length + (if ([] : List Keyword).isEmpty then 0 else 1) < 30)) = true := by rfl)
    (hline : (apos.endLine == cpos.line) = true := by rfl) (hs : starEach (e :: es) X.env = (false, eval e X.env) :: starEach es X.env := by rfl) (hplain : (backTo cpos (starEach es X.env)).any (·.1) = false := by rfl) :
    DE X W (.Call (.Attribute (.Name x px) name apos) (e :: es) [] cpos) (eMut i isLst f ml) := by
  obtain ⟨t, p, s⟩ := ha
  refine ⟨_, pe_bm PySem.F.plainAttrs_list slot hty hm hv p hbase hfew hline hs hplain, fun B M H ρ σ Q rp k => ?_⟩
  unfold eMut at k
  cases e0 : ownGet ρ i with
  | none => rw [e0] at k; exact k.elim
  | some d0 =>
    rw [e0] at k
    cases d0 with
    | lst ds0 =>
      simp only [ofO, Res.bind, isLst] at k
      obtain ⟨a, sl, hi, ho, hv1, w, _⟩ := own_at rp e0
      obtain ⟨_, _, vs0, hH, _⟩ := w
      refine ⟨_, hv1, .inl ⟨rfl, _, SqL.of hH⟩, ?_⟩
      refine s B M H ρ σ _ rp (Post.seq k fun ds ρ1 M1 H1 xs x1 r1 q1 k1 => ?_)
      cases e1 : ownGet ρ1 i with
      | none => rw [e1] at k1; exact k1.elim
      | some d =>
        rw [e1] at k1
        obtain ⟨a', sl', hi', ho', hv', w', es'⟩ := own_at r1 e1
        rw [hv1] at hv'
        cases hv'
        cases e2 : f d ds with
        | none => simp only [ofO, Res.bind, e2] at k1; exact k1.elim
        | some r =>
          simp only [ofO, Res.bind, e2] at k1
          obtain ⟨o0, q0, im⟩ := w'.there
          refine hf M1 H1 a d r.1 r.2 ds xs Q w' q1 e2 fun u v wn tu rz => ?_
          have hx : Ext M1 H1 M1 (upd H1 a u) := Ext.write w'.mem q0 im
          refine k1 M1 _ v hx ?_ (rz _ hx)
          rw [es' r.1]
          exact r1.mutate hi' ho' hv1 wn rfl tu
    | _ => simp only [ofO, Res.bind, isLst] at k; exact k.elim
def appD (d : D) (xs : List D) : Option (D × D) := match d, xs with
  | .lst ds, [y] => if ds.length < sizeLine then some (.lst (ds ++ [y]), .non) else none
  | _, _ => none
theorem m_append : MutE X appD rAppend := by
  intro M H a d d' z ds xs Q w r hf k
  unfold appD at hf
  split at hf
  · split at hf
    · rename_i hl
      cases hf
      obtain ⟨m, l, vs, e, q⟩ := w
      cases r with
      | @cons _ _ v1 _ r1 r2 =>
        cases r2
        have hx : Ext M H M (upd H a (.lst (vs ++ [v1]))) := Ext.write m e fun z => z
        exact ⟨a, vs, _, rfl, rfl, e, by rw [← q.length]; exact hl, k _ _ ⟨m, by rw [List.length_append]; exact hl, _, upd_same, RpL.ext hx (q.append (.cons r1 .nil))⟩ rfl fun _ _ => .non⟩
    · cases hf
  · cases hf
/-- xs[i] = e -/
def sSetIx (i : Nat) (me mi : EM) : SM := fun ρ => (me ρ).out fun z ρ1 => (ofO (ownGet ρ1 i) ρ1).out fun _ _ => (mi ρ1).out fun k ρ2 => match ownGet ρ2 i, k with
  | some (.lst ds), .int n => (match ixN ds.length n with
    | some j => .nx (ownSet ρ2 i (.lst (ds.set j z)))
    | none => .bad)
  | _, _ => .bad
theorem ds_setIx {i : Nat} {x : Str} {px pos' : Pos} {ix : Expr} {me mi : EM} (hv : PE X (.Name x px) (tVar i)) (he : DE X W e me) (hi : DE X W ix mi)
    (ha : ∀ v, assign (.Subscript (.Name x px) ix pos') X.env v = (do
      let ov ← holding [v] (eval (.Name x px) X.env)
      let iv ← holding [v, ov] (eval ix X.env)
      standAt pos'
      holding [v, ov, iv] (setItem ov iv v)
      release [v, ov, iv] []) := by intro _; rfl)
    (hs : swapsWithSole [.Subscript (.Name x px) ix pos'] e pos.line X.env = pure false := by rfl) (hw : swappedStores [.Subscript (.Name x px) ix pos'] e X.env = pure none := by rfl)
    (h1 : (assignEach [.Subscript (.Name x px) ix pos'] X.env).map (·.2) = [assign (.Subscript (.Name x px) ix pos') X.env] := by rfl) :
    DS X W (.Assign [.Subscript (.Name x px) ix pos'] e pos) (sSetIx i me mi) := by
  obtain ⟨t, p, s⟩ := he
  obtain ⟨t2, p2, s2⟩ := hi
  refine ⟨_, ps_asg p (pg_sub hv p2 set_list ha) hs hw h1, fun B M H ρ σ E r h => s B M H ρ σ _ r (PostS.out h fun z ρ1 M1 H1 zv x1 r1 q1 k1 => ?_)⟩
  cases e0 : ownGet ρ1 i with
  | none => rw [e0] at k1; exact k1.elim
  | some d0 =>
    rw [e0] at k1
    obtain ⟨a, sl, hi, ho, hv1, w, _⟩ := own_at r1 e0
    refine ⟨_, hv1, s2 B M1 H1 ρ1 σ _ r1 (PostS.out (α := D) (f := fun k ρ2 => match ownGet ρ2 i, k with
      | some (.lst ds), .int n => (match ixN ds.length n with
        | some j => .nx (ownSet ρ2 i (.lst (ds.set j z)))
        | none => .bad)
      | _, _ => .bad) k1 fun kd ρ2 M2 H2 kv x2 r2 q2 k2 => ?_)⟩
    cases e1 : ownGet ρ2 i with
    | none => simp only [e1] at k2; exact k2.elim
    | some d =>
      obtain ⟨a', sl', hi', ho', hv', w', es'⟩ := own_at r2 e1
      rw [hv1] at hv'
      cases hv'
      cases d with
      | lst ds =>
        cases kd with
        | int n =>
          simp only [e1] at k2
          cases ej : ixN ds.length n with
          | none => simp only [ej] at k2; exact k2.elim
          | some j =>
            simp only [ej] at k2
            obtain ⟨m, l, vs, hH, q⟩ := w'
            cases q2
            refine ⟨a, vs, n, j, rfl, rfl, hH, by rw [← q.length]; exact ej, ?_⟩
            have hx : Ext M2 H2 M2 (upd H2 a (.lst (vs.set j zv))) := Ext.write m hH fun z => z
            refine k2 M2 _ σ hx ?_
            rw [es']
            exact r2.mutate (d' := .lst (ds.set j z)) hi' ho' hv1 ⟨m, by simpa using l, _, upd_same, RpL.ext hx (RpL.set (Rp.ext x2 q1) j q)⟩ rfl rfl
        | _ => simp only [e1] at k2; exact k2.elim
      | _ => simp only [e1] at k2; exact k2.elim
end
end NV

set_option Elab.async false
set_option linter.all false
set_option maxRecDepth 100000
set_option maxHeartbeats 4000000
/-! Core5: targets, what is walked, for, comprehensions, while. -/
namespace NV
open PySem PySem.Spec PyProof.Rows L2

section
variable {X : Cx} {W : WX}
/-! ### targets -/
/-- only the slots vs are stored -/
def Only (vs : List Nat) (σ σ' : St) : Prop := σ'.length = σ.length ∧ ∀ j, j ∉ vs → σ'[j]? = σ[j]?
def DG (X : Cx) (tg : Expr) (g : D → Env → Option Env) (vs : List Nat) : Prop := ∃ t, PG X tg t ∧
  ∀ (B : Base) (M : Addr → Prop) (H : Hp) (ρ ρ' : Env) (σ : St) (d : D) (v : V) (Q : St → Hp → Prop), Rep X.K B M H ρ σ → Rp X.K M H d v → g d ρ = some ρ' → (∀ σ', Rep X.K B M H ρ' σ' → Only vs σ σ' → Q σ' H) → t v σ H Q
def gNm (i : Nat) (d : D) (ρ : Env) : Option Env := some (ρ.set i (.v d))
theorem dg_name {i : Nat} {x : Str} {pos : Pos} (hN : X.N.Nodup) (hi : X.N[i]? = some x) (hx : Loc X.env.scope x) (hf : X.fn x = true ∨ X.env.scope.names.lookup x = some .local := by first | exact .inl rfl | exact .inr rfl | assumption) : DG X (.Name x pos) (gNm i) [i] :=
  ⟨_, pg_name hN hi hx hf, fun B M H ρ ρ' σ d v Q r q e k => by
    cases e
    exact k _ (r.setV i q) ⟨by simp, fun j hj => List.getElem?_set_ne fun e => hj (by simp [e])⟩⟩
def DGs (X : Cx) (tgs : List Expr) (g : List D → Env → Option Env) (us : List Nat) : Prop := ∃ t, PGs X tgs t ∧
  ∀ (B : Base) (M : Addr → Prop) (H : Hp) (ρ ρ' : Env) (σ : St) (ds : List D) (vs : List V) (Q : St → Hp → Prop), Rep X.K B M H ρ σ → RpL X.K M H ds vs → g ds ρ = some ρ' → (∀ σ', Rep X.K B M H ρ' σ' → Only us σ σ' → Q σ' H) → t vs σ H Q
def gsNil (ds : List D) (ρ : Env) : Option Env := match ds with
  | [] => some ρ
  | _ => none
def gsCons (g : D → Env → Option Env) (gs : List D → Env → Option Env) (ds : List D) (ρ : Env) : Option Env := match ds with
  | d :: r => (g d ρ).bind fun ρ1 => gs r ρ1
  | _ => none
theorem dgs_nil : DGs X [] gsNil [] := ⟨_, pgs_nil, fun B M H ρ ρ' σ ds vs Q r q e k => by
  cases ds with
  | nil =>
    cases q
    cases e
    exact ⟨rfl, k _ r ⟨rfl, fun _ _ => rfl⟩⟩
  | cons _ _ => cases e⟩
theorem dgs_cons {e : Expr} {es : List Expr} {g : D → Env → Option Env} {gs : List D → Env → Option Env} {us vs : List Nat} (h : DG X e g us) (hs : DGs X es gs vs) (ha : (assignEach (e :: es) X.env).map (·.2) = assign e X.env :: (assignEach es X.env).map (·.2) := by rfl) : DGs X (e :: es) (gsCons g gs) (us ++ vs) := by
  obtain ⟨t, p, s⟩ := h
  obtain ⟨u, q, s'⟩ := hs
  refine ⟨_, pgs_cons p q ha, fun B M H ρ ρ' σ ds vs Q r rq e k => ?_⟩
  cases ds with
  | nil => cases e
  | cons d ds =>
    cases rq with
    | cons r1 r2 =>
      have e : (g d ρ).bind (fun ρ1 => gs ds ρ1) = some ρ' := e
      cases e1 : g d ρ with
      | none => rw [e1] at e; cases e
      | some ρ1 =>
        rw [e1] at e
        exact ⟨_, _, rfl, s B M H ρ ρ1 σ d _ _ r r1 e1 fun σ1 rr o1 => s' B M H ρ1 ρ' σ1 ds _ Q rr r2 e fun σ2 rr2 o2 => k σ2 rr2 ⟨o2.1.trans o1.1, fun j hj => by
          rw [List.mem_append, not_or] at hj
          exact (o2.2 j hj.2).trans (o1.2 j hj.1)⟩⟩
def gTp (n : Nat) (gs : List D → Env → Option Env) (d : D) (ρ : Env) : Option Env := match d with
  | .tup ds => if ds.length = n then gs ds ρ else none
  | _ => none
theorem dg_tup {es : List Expr} {k : Nat} {gs : List D → Env → Option Env} {n : Nat} {vs : List Nat} {pos : Pos} (c : Cd X) (h : DGs X es gs vs) (hn : (assignEach es X.env).length = n := by rfl) (hst : (assignEach es X.env).findIdx? (·.1) = none := by rfl) : DG X (.Tuple es k pos) (gTp n gs) vs := by
  obtain ⟨t, p, s⟩ := h
  refine ⟨_, pg_tup c.calm p hn hst, fun B M H ρ ρ' σ d v Q r q e k => ?_⟩
  unfold gTp at e
  split at e
  · split at e
    · rename_i hl
      cases q with
      | tup l h1 h2 => exact ⟨_, _, rfl, h1, by rw [← h2.length]; exact hl, s B M H ρ ρ' σ _ _ Q r h2 e k⟩
    · cases e
  · cases e
/-- a, b = x, y -/
def sPar (i j : Nat) (m : Env → Res (List D)) : SM := fun ρ => (m ρ).out fun ds ρ1 => match ds with
  | [d, e] => .nx ((ρ1.set i (.v d)).set j (.v e))
  | _ => .bad
theorem ds_par {i j : Nat} {x y : Str} {a b : Expr} {m : Env → Res (List D)} {px py pt pos : Pos} {kt k2 pt2} (c : Cd X) (hN : X.N.Nodup) (hi : X.N[i]? = some x) (hj : X.N[j]? = some y) (hij : i ≠ j)
    (hx : X.env.scope.names.lookup x = some .local) (hy : X.env.scope.names.lookup y = some .local) (ha : DL X W [a, b] m)
    (hw : swappedStores [.Tuple [.Name x px, .Name y py] kt pt] (.Tuple [a, b] k2 pt2) X.env = pure (some [x, y]))
    (hs : swapsWithSole [.Tuple [.Name x px, .Name y py] kt pt] (.Tuple [a, b] k2 pt2) pos.line X.env = pure false := by rfl) :
    DS X W (.Assign [.Tuple [.Name x px, .Name y py] kt pt] (.Tuple [a, b] k2 pt2) pos) (sPar i j m) := by
  obtain ⟨t, p, s⟩ := ha
  refine ⟨_, ps_par c.calm hN hi hj hij hx hy p hw hs, fun B M H ρ σ E r h => s B M H ρ σ _ r (PostS.out h fun ds ρ1 M1 H1 vs x1 r1 q1 k1 => ?_)⟩
  match ds, q1, k1 with
  | [], _, k1 => exact k1.elim
  | [d], _, k1 => exact k1.elim
  | [d, e], q1, k1 =>
    cases q1 with
    | cons a1 q2 =>
      cases q2 with
      | cons a2 q3 =>
        cases q3
        exact ⟨_, _, rfl, k1 M1 H1 _ Ext.refl ((r1.setV i a1).setV j a2)⟩
  | _ :: _ :: _ :: _, _, k1 => exact k1.elim
/-! ### what is walked -/
/-- the iterator yields ds, whatever the heap has become meanwhile -/
def ItOk (K : PySem.W.Frag) (M0 : Addr → Prop) (H0 : Hp) (J : It) (ds : List D) : Prop :=
  ∀ (M : Addr → Prop) (H : Hp), Ext M0 H0 M H → (∀ i, ds.length ≤ i → J.stop i H) ∧ ∀ i d, ds[i]? = some d → J.go i H ∧ ∀ x H', J.yld i H x H' → (∀ b o, H b = some o → H' b = some o) ∧ Rp K M H' d x
def DI (X : Cx) (W : WX) (tg e : Expr) (mi : Env → Res (List D)) : Prop := ∃ wi, PI X tg e wi ∧
  ∀ (B : Base) (M : Addr → Prop) (H : Hp) (ρ : Env) (σ : St) (Q : It → Hp → Prop), Rep X.K B M H ρ σ → Post X B W (fun M' H' _ ds J => ItOk X.K M' H' J ds ∧ ds.length ≤ sizeLine) M H σ (mi ρ) Q → wi σ H Q
/-- a list, a tuple, a text -/
def iAny (K : PySem.W.Frag) (te : TE) : TI := fun σ H R => te σ H fun x H1 => (∃ a, x = .ref a ∧ (∃ xs, SqL K H1 a xs) ∧ R (Itl K a) H1) ∨ ((∃ a, x = .ref a ∧ (∃ xs, SqT K H1 a xs) ∧ R (Itt K a) H1) ∨ ∃ z, x = .str z ∧ R (Its z) H1)
theorem pi_any {tg l : Expr} {tl : TE} (hl : PE X l tl) : PI X tg l (iAny X.K tl) := by
  refine ⟨fun pins s σ H R I h => ?_⟩
  refine thn (hl.run pins s σ H _ I h) fun v s1 ⟨x, H1, I1, r1, q1⟩ => ?_
  rcases q1 with ⟨a, e, ⟨xs, hq⟩, q⟩ | ⟨a, e, ⟨xs, hq⟩, q⟩ | ⟨z, e, q⟩
  · subst e
    cases r1
    obtain ⟨its, rv, p, hz⟩ := I1.list hq
    refine wpAny_pyIter_list p.isList ?_
    refine ⟨s1.heap.objs.size, [s1.heap.objs.size], _, _, H1, rfl, I1.kept (t' := s1.toks) fun b o e => Heap.get?_push_of_some _ e, turn_list a _, ⟨_, Heap.get?_push_size _ rfl, rfl, rfl⟩, fun b hb => ?_, q⟩
    have e : b = s1.heap.objs.size := by simpa using hb
    subst e
    exact I1.fpOk (Nat.le_refl _) (I1.hok.fresh (Nat.le_refl _))
  · subst e
    cases r1
    obtain ⟨its, rv, p, hz⟩ := I1.tuple hq
    refine wpAny_pyIter_tuple (show s1.heap.IsTuple a its.toArray from p) ?_
    refine ⟨s1.heap.objs.size, [s1.heap.objs.size], _, _, H1, rfl, I1.kept (t' := s1.toks) fun b o e => Heap.get?_push_of_some _ e, turn_tuple a _, ⟨_, Heap.get?_push_size _ rfl, rfl, rfl⟩, fun b hb => ?_, q⟩
    have e : b = s1.heap.objs.size := by simpa using hb
    subst e
    exact I1.fpOk (Nat.le_refl _) (I1.hok.fresh (Nat.le_refl _))
  · subst e
    obtain ⟨t, rfl⟩ := r1
    cases ha : z.cps.all (· < 128)
    · exact wpAny_pyIter_wide ha (pi_one (tk := s1.toks) I1 _ (turn_str _ z t "str_iterator" (.inr rfl)) ⟨_, Heap.get?_push_size _ rfl, rfl, rfl⟩ q)
    · exact wpAny_pyIter_ascii ha (pi_one (tk := s1.toks) I1 _ (turn_str _ z t "str_ascii_iterator" (.inl rfl)) ⟨_, Heap.get?_push_size _ rfl, rfl, rfl⟩ q)
def itemsD : D → Option (List D)
  | .tup ds => some ds
  | .lst ds => some ds
  | .scr xs => some (xs.map .int)
  | .str z => some (z.cps.toList.map fun c => .str ⟨#[c]⟩)
  | _ => none
def iVal (m : EM) : Env → Res (List D) := fun ρ => (m ρ).bind fun d ρ1 => ofO (itemsD d) ρ1
theorem itOk_list {K : PySem.W.Frag} {M : Addr → Prop} {H : Hp} {a : Addr} {ds : List D} {vs : List V} (h : H a = some (.lst vs)) (n : ¬ M a) (r : RpL K M H ds vs) : ItOk K M H (Itl K a) ds := fun M' H' x => by
  have h' : SqL K H' a vs := SqL.of (x _ _ h (.inl n)).1
  refine ⟨fun i hi => ⟨vs, h', by rw [← r.length]; exact hi⟩, fun i d hd => ?_⟩
  obtain ⟨v, hv, rv⟩ := r.get hd
  refine ⟨⟨vs, v, h', hv⟩, fun y H2 ⟨e, hy⟩ => ?_⟩
  subst e
  have e2 := hy vs h'
  rw [hv] at e2
  cases e2
  exact ⟨fun _ _ z => z, Rp.ext x rv⟩
theorem itOk_tuple {K : PySem.W.Frag} {M : Addr → Prop} {H : Hp} {a : Addr} {ds : List D} {vs : List V} (h : SqT K H a vs) (r : RpL K M H ds vs) : ItOk K M H (Itt K a) ds := fun M' H' x => by
  have h' : SqT K H' a vs := x.sqT h
  refine ⟨fun i hi => ⟨vs, h', by rw [← r.length]; exact hi⟩, fun i d hd => ?_⟩
  obtain ⟨v, hv, rv⟩ := r.get hd
  refine ⟨⟨vs, v, h', hv⟩, fun y H2 ⟨e, hy⟩ => ?_⟩
  subst e
  have e2 := hy vs h'
  rw [hv] at e2
  cases e2
  exact ⟨fun _ _ z => z, Rp.ext x rv⟩
theorem itOk_scr {K : PySem.W.Frag} {M : Addr → Prop} {H : Hp} {a : Addr} {xs : List Int} (h : SqS K H a xs) : ItOk K M H (Itl K a) (xs.map .int) := fun M' H' x => by
  have h' : SqL K H' a (xs.map V.int) := (x.sqS h).sql
  refine ⟨fun i hi => ⟨_, h', by rw [List.length_map] at hi ⊢; exact hi⟩, fun i d hd => ?_⟩
  rw [List.getElem?_map] at hd
  cases e : xs[i]? with
  | none => rw [e] at hd; cases hd
  | some n =>
    rw [e] at hd
    cases hd
    have hv : (xs.map V.int)[i]? = some (.int n) := by rw [List.getElem?_map, e]; rfl
    refine ⟨⟨_, _, h', hv⟩, fun y H2 ⟨e, hy⟩ => ?_⟩
    subst e
    have e2 := hy _ h'
    rw [hv] at e2
    cases e2
    exact ⟨fun _ _ z => z, .int n⟩
theorem itOk_str {K : PySem.W.Frag} {M : Addr → Prop} {H : Hp} {z : Str} (g : StrG z) : ItOk K M H (Its z) (z.cps.toList.map fun c => .str ⟨#[c]⟩) := fun M' H' x => by
  refine ⟨fun i hi => by rw [List.length_map, Array.length_toList] at hi; exact hi, fun i d hd => ?_⟩
  rw [List.getElem?_map] at hd
  cases e : z.cps.toList[i]? with
  | none => rw [e] at hd; cases hd
  | some c =>
    rw [e] at hd
    cases hd
    have e3 : z.cps[i]? = some c := by rw [← e]; simp
    refine ⟨by have := (List.getElem?_eq_some_iff.mp e).1; rw [Array.length_toList] at this; exact this, fun y H2 ⟨e1, c', hc, hy⟩ => ?_⟩
    rw [e3] at hc
    cases hc
    subst e1 hy
    exact ⟨fun _ _ z => z, .str (strG_sub (z := z) g (by
      show 1 ≤ _
      exact Nat.lt_of_le_of_lt (Nat.zero_le i) (List.getElem?_eq_some_iff.mp e).1) fun c2 h2 => by
        have : c2 = c := by simpa using h2
        rw [this]; exact List.mem_of_getElem? e)⟩
theorem di_val {tg e : Expr} {m : EM} (h : DE X W e m) : DI X W tg e (iVal m) := by
  obtain ⟨t, p, s⟩ := h
  refine ⟨_, pi_any p, fun B M H ρ σ Q rp k => s B M H ρ σ _ rp (Post.seq k fun d ρ1 M1 H1 v x1 r1 q1 k1 => ?_)⟩
  cases d with
  | tup ds =>
    cases q1 with
    | tup l h1 h2 => exact .inr (.inl ⟨_, rfl, ⟨_, h1⟩, k1 M1 H1 _ Ext.refl r1 ⟨itOk_tuple h1 h2, l⟩⟩)
  | lst ds =>
    cases q1 with
    | lst l n h1 h2 => exact .inl ⟨_, rfl, ⟨_, SqL.of h1⟩, k1 M1 H1 _ Ext.refl r1 ⟨itOk_list h1 n h2, l⟩⟩
  | scr xs =>
    cases q1 with
    | scr l h1 => exact .inl ⟨_, rfl, ⟨_, h1.sql⟩, k1 M1 H1 _ Ext.refl r1 ⟨itOk_scr h1, by rw [List.length_map]; exact l⟩⟩
  | str z =>
    cases q1 with
    | str g => exact .inr (.inr ⟨_, rfl, k1 M1 H1 _ Ext.refl r1 ⟨itOk_str g, by rw [List.length_map, Array.length_toList]; exact g.1⟩⟩)
  | _ => exact k1.elim
def rngD (lo : Int) (n : Nat) : List D := (List.range n).map fun i => .int (lo + (i : Nat))
theorem itOk_rng {K : PySem.W.Frag} {M : Addr → Prop} {H : Hp} {lo : Int} {n : Nat} : ItOk K M H (Itr lo n) (rngD lo n) := fun M' H' x => by
  refine ⟨fun i hi => by unfold rngD at hi; rw [List.length_map, List.length_range] at hi; exact hi, fun i d hd => ?_⟩
  unfold rngD at hd
  rw [List.getElem?_map] at hd
  cases e : (List.range n)[i]? with
  | none => rw [e] at hd; cases hd
  | some j =>
    rw [e] at hd
    cases hd
    obtain ⟨hl, ej⟩ := List.getElem?_eq_some_iff.mp e
    rw [List.getElem_range] at ej
    subst ej
    refine ⟨by rw [List.length_range] at hl; exact hl, fun y H2 ⟨e1, hy⟩ => ?_⟩
    subst e1 hy
    exact ⟨fun _ _ z => z, .int _⟩
def rng1 (d : D) : Option (List D) := match d with
  | .int j => if j ≤ 16777216 ∧ -(2 ^ 62) ≤ j then some (rngD 0 j.toNat) else none
  | _ => none
def rng2 (d e : D) : Option (List D) := match d, e with
  | .int i, .int j => if -(2 ^ 62) ≤ i ∧ i < 2 ^ 62 ∧ -(2 ^ 62) ≤ j ∧ j < 2 ^ 62 ∧ j - i ≤ 16777216 then some (rngD i (j - i).toNat) else none
  | _, _ => none
def iRange1 (m : EM) : Env → Res (List D) := fun ρ => (m ρ).bind fun d ρ1 => ofO (rng1 d) ρ1
def iRange2 (m1 m2 : EM) : Env → Res (List D) := fun ρ => (m1 ρ).bind fun d ρ1 => (m2 ρ1).bind fun e ρ2 => ofO (rng2 d e) ρ2
theorem di_range1 {tg a : Expr} {m : EM} {p pos : Pos} (hg : Gl X "range") (hm : X.mg "range" = none) (h : DE X W a m) (hs : starEach [a] X.env = [(false, eval a X.env)] := by rfl) (hs2 : starEach [a] X.env = (false, eval a X.env) :: starEach [] X.env := by rfl) : DI X W tg (.Call (.Name "range" p) [a] [] pos) (iRange1 m) := by
  obtain ⟨t, pt, s⟩ := h
  refine ⟨_, pi_range1 hg hm (pa_cons pt pa_nil hs2) hs, fun B M H ρ σ Q rp k => s B M H ρ σ _ rp (Post.seq k fun d ρ1 M1 H1 v x1 r1 q1 k1 => ?_)⟩
  cases d with
  | int j =>
    cases q1
    unfold rng1 at k1
    simp only at k1
    split at k1
    · rename_i hc
      exact ⟨j, rfl, hc.2, by omega, k1 M1 H1 _ Ext.refl r1 ⟨itOk_rng, by unfold rngD; rw [List.length_map, List.length_range, sizeLine_eq]; omega⟩⟩
    · exact k1.elim
  | _ => exact k1.elim
/-! ### for -/
def forL (g : D → Env → Option Env) (body : SM) : List D → SM
  | [], ρ => .nx ρ
  | d :: ds, ρ => match g d ρ with
    | none => .bad
    | some ρ1 => match body ρ1 with
      | .nx ρ2 => forL g body ds ρ2
      | .ct ρ2 => forL g body ds ρ2
      | .bk ρ2 => .nx ρ2
      | o => o
def sFor (mi : Env → Res (List D)) (g : D → Env → Option Env) (body : SM) : SM := fun ρ => (mi ρ).out fun ds ρ1 => forL g body ds ρ1
theorem ds_for {tg iter : Expr} {body : List Stmt} {mi : Env → Res (List D)} {g : D → Env → Option Env} {mb : SM} {vs : List Nat} {pos : Pos} (c : Cd X) (hp : PassesOwn (model X.prog X.w) X.A X.env X.xe) (hi : DI X W tg iter mi) (hg : DG X tg g vs) (hb : DSs X W body mb)
    (hs : ∀ x, foldedSetIterable iter X.env x = pure x := by intro _; rfl) : DS X W (.For tg iter body [] pos) (sFor mi g mb) := by
  obtain ⟨wi, pi, si⟩ := hi
  obtain ⟨tg', pg, sg⟩ := hg
  obtain ⟨tb, pb, sb⟩ := hb
  refine ⟨_, ps_for hp c.calm pi pg pb hs, fun B M H ρ σ E r h => si B M H ρ σ _ r (PostS.out (α := List D) (β := It) h fun ds ρ1 M1 H1 J x1 r1 q1 k1 => ?_)⟩
  refine ⟨fun i n σ' H' => n = ds.length - i ∧ ∃ M' ρ', Ext M1 H1 M' H' ∧ Rep X.K B M' H' ρ' σ' ∧ PostS X B W M' H' (forL g mb (ds.drop i) ρ') E, ⟨_, rfl, M1, ρ1, Ext.refl, r1, k1⟩, ?_⟩
  rintro i n σ2 H2 ⟨rfl, M2, ρ2, x2, r2, k2⟩
  obtain ⟨stop, go⟩ := q1.1 M2 H2 x2
  cases hd : ds[i]? with
  | none =>
    have hl : ds.length ≤ i := List.getElem?_eq_none_iff.mp hd
    rw [List.drop_eq_nil_of_le hl] at k2
    exact .inl ⟨stop i hl, k2 M2 H2 σ2 Ext.refl r2⟩
  | some d =>
    obtain ⟨hl, e⟩ := List.getElem?_eq_some_iff.mp hd
    rw [List.drop_eq_getElem_cons hl, e] at k2
    obtain ⟨g1, yl⟩ := go i d hd
    refine .inr ⟨g1, fun σ' H' => ∃ M' ρ', Ext M1 H1 M' H' ∧ Rep X.K B M' H' ρ' σ' ∧ PostS X B W M' H' (forL g mb (ds.drop (i + 1)) ρ') E, fun σ' H' z => ⟨ds.length - (i + 1), by omega, rfl, z⟩, fun x H3 hy => ?_⟩
    obtain ⟨keep, rx⟩ := yl x H3 hy
    have xk : Ext M2 H2 M2 H3 := fun b o eb _ => ⟨keep b o eb, fun n => n⟩
    have r3 : Rep X.K B M2 H3 ρ2 σ2 := r2.grow xk keep (fun _ z => z) (fun _ z => .inl z) fun b z => by
      cases q : H2 b with
      | none => exact absurd q (r2.trk b z)
      | some o => rw [keep b o q]; simp
    unfold forL at k2
    cases eg : g d ρ2 with
    | none => simp only [eg] at k2; exact k2.elim
    | some ρ3 =>
      simp only [eg] at k2
      refine sg B M2 H3 ρ2 ρ3 σ2 d x _ r3 rx eg fun σ3 r4 _ => sb B M2 H3 ρ3 σ3 _ r4 ?_
      have k3 := PostS.shift xk k2
      have next : ∀ ρ4, PostS X B W M2 H3 (forL g mb (ds.drop (i + 1)) ρ4) E → ∀ (M' : Addr → Prop) (H' : Hp) (σ' : St), Ext M2 H3 M' H' → Rep X.K B M' H' ρ4 σ' →
          ∃ M' ρ', Ext M1 H1 M' H' ∧ Rep X.K B M' H' ρ' σ' ∧ PostS X B W M' H' (forL g mb (ds.drop (i + 1)) ρ') E := fun ρ4 k4 M' H' σ' x4 r5 => ⟨M', ρ4, x2.trans (xk.trans x4), r5, PostS.shift x4 k4⟩
      cases em : mb ρ3 with
      | nx ρ4 => rw [em] at k3; exact next ρ4 k3
      | ct ρ4 => rw [em] at k3; exact next ρ4 k3
      | bk ρ4 => rw [em] at k3; exact k3
      | rt d' ρ4 => rw [em] at k3; exact k3
      | rtF d' ρ4 => rw [em] at k3; exact k3
      | exc x' ρ4 => rw [em] at k3; exact k3
      | bad => rw [em] at k3; exact k3

/-! ### while -/
end
end NV

set_option Elab.async false
set_option linter.all false
set_option maxRecDepth 100000
set_option maxHeartbeats 4000000
/-! Core6: comprehensions. -/
namespace NV
open PySem PySem.Spec PyProof.Rows L2

/-! ### one reading for all blocks -/
section
variable {X : Cx} {W : WX}
def tCan (X : Cx) (W : WX) (m : EM) : TE := fun σ H Q => ∃ B M ρ, Rep X.K B M H ρ σ ∧ Post X B W (RelE X.K) M H σ (m ρ) Q
def ttCan (X : Cx) (W : WX) (m : TM) : TT := fun σ H Q => ∃ B M ρ, Rep X.K B M H ρ σ ∧ Post X B W RelT M H σ (m ρ) Q
def tgCan (X : Cx) (g : D → Env → Option Env) (vs : List Nat) : TG := fun v σ H Q => ∃ B M ρ ρ' d, Rep X.K B M H ρ σ ∧ Rp X.K M H d v ∧ g d ρ = some ρ' ∧ ∀ σ', Rep X.K B M H ρ' σ' → Only vs σ σ' → Q σ' H
theorem can_e {e : Expr} {m : EM} (h : DE X W e m) : PE X e (tCan X W m) := by
  obtain ⟨t, p, s⟩ := h
  exact ⟨fun pins s' σ H Q I ⟨B, M, ρ, r, k⟩ => p.run pins s' σ H Q I (s B M H ρ σ Q r k)⟩
theorem can_t {e : Expr} {m : TM} (h : DT X W e m) : PT X e (ttCan X W m) := by
  obtain ⟨t, p, s⟩ := h
  exact ⟨fun pins s' σ H Q I ⟨B, M, ρ, r, k⟩ => p.run pins s' σ H Q I (s B M H ρ σ Q r k)⟩
theorem can_g {e : Expr} {g : D → Env → Option Env} {vs : List Nat} (h : DG X e g vs) : PG X e (tgCan X g vs) := by
  obtain ⟨t, p, s⟩ := h
  exact ⟨fun pins s' σ H v u Q I rv ⟨B, M, ρ, ρ', d, r, q, e, k⟩ => p.run pins s' σ H v u Q I rv (s B M H ρ ρ' σ d v Q r q e k)⟩
/-- a clause's tests -/
def DTs (X : Cx) (W : WX) (ifs : List Expr) (m : TM) : Prop := PTs X ifs (ttCan X W m)
def tYesM : TM := fun ρ => .ok true ρ
theorem dts_nil : DTs X W [] tYesM := ⟨fun pins s σ H Q I ⟨B, M, ρ, r, k⟩ => wpAny_tests_nil ⟨H, I, k M H true Ext.refl r rfl⟩⟩
theorem dts_one {c : Expr} {m : TM} (h : DT X W c m) : DTs X W [c] m := pts_one (can_t h)
end

/-! ### the block's own names -/
def wipeE (ρ : Env) : List Nat → Env
  | [] => ρ
  | v :: vs => (wipeE ρ vs).set v .no
section
variable {K : PySem.W.Frag} {B : Base} {M M' : Addr → Prop} {H H' : Hp} {ρ ρ1 : Env} {σ σ1 : St}
theorem Rep.wipe (r : Rep K B M H ρ σ) : ∀ vs : List Nat, Rep K B M H (wipeE ρ vs) (wipe σ vs)
  | [] => r
  | v :: vs => (r.wipe vs).setNo v none
theorem wipe_ext {σ σ2 : St} {vs : List Nat} (h : Only vs (L2.wipe σ vs) σ2) : L2.wipe σ2 vs = L2.wipe σ vs := by
  obtain ⟨hl, h⟩ := h
  rw [wipe_length] at hl
  have at_ : ∀ (s : St) (us : List Nat) (j : Nat), (L2.wipe s us)[j]? = if j ∈ us then (if j < s.length then some none else none) else s[j]? := by
    intro s us j
    induction us with
    | nil => simp [L2.wipe]
    | cons u us ih =>
      unfold L2.wipe
      by_cases e : j = u
      · subst e
        by_cases hj : j < s.length
        · rw [List.getElem?_set_self (by rw [wipe_length]; exact hj)]
          simp [hj]
        · rw [List.getElem?_eq_none (by simp [wipe_length]; omega)]
          simp [hj]
      · rw [List.getElem?_set_ne (Ne.symm e), ih]
        simp [e]
  apply List.ext_getElem?
  intro j
  rw [at_, at_]
  by_cases hj : j ∈ vs
  · rw [if_pos hj, if_pos hj, hl]
  · rw [if_neg hj, if_neg hj, h j hj, at_, if_neg hj]
theorem back_wipe {σ : St} : ∀ vs : List Nat, backS σ vs (L2.wipe σ vs) = σ := by
  intro vs
  have at_ : ∀ (s : St) (us : List Nat), (∀ j, j ∉ us → s[j]? = σ[j]?) → s.length = σ.length → (backS σ us s).length = σ.length ∧ ∀ j, (backS σ us s)[j]? = σ[j]? ∨ (j ∉ us ∧ False) := by
    intro s us h hl
    have hh : ∀ us' : List Nat, (backS σ us' s).length = σ.length := by
      intro us'
      induction us' with
      | nil => exact hl
      | cons u us' ih => unfold backS; rw [List.length_set]; exact ih
    refine ⟨hh us, fun j => .inl ?_⟩
    have key : ∀ us' : List Nat, (backS σ us' s)[j]? = if j ∈ us' then σ[j]? else s[j]? := by
      intro us'
      induction us' with
      | nil => simp [backS]
      | cons u us' ih =>
        unfold backS
        by_cases e : j = u
        · subst e
          by_cases hj : j < σ.length
          · rw [List.getElem?_set_self (by rw [hh]; exact hj)]
            simp [List.getElem?_eq_getElem hj]
          · rw [List.getElem?_eq_none (by simp [hh]; omega), List.getElem?_eq_none (by omega)]
            simp
        · rw [List.getElem?_set_ne (Ne.symm e), ih]
          simp [e]
    rw [key]
    by_cases hj : j ∈ us
    · rw [if_pos hj]
    · rw [if_neg hj, h j hj]
  obtain ⟨h1, h2⟩ := at_ (L2.wipe σ vs) vs (fun j hj => wipe_out hj) (wipe_length _ _)
  exact List.ext_getElem? fun j => (h2 j).elim id fun z => z.2.elim
/-- an owned object that no slot holds is written -/
theorem Rep.writeAnon (r : Rep K B M H ρ σ) {a : Addr} {o u : HO} (m : M a) (e : H a = some u) (an : Anon H ρ σ a) (hb : B.H a = none) (np : ∀ p ∈ B.pr, p.1 ≠ a) (im : ¬ Imm u) : Rep K B M (upd H a o) ρ σ := by
  have hx : Ext M H M (upd H a o) := Ext.write m e im
  refine r.change (fun b ob h1 _ h3 => ?_) (fun b h => ?_) (fun _ h => h) (fun _ h => .inl h) (fun b h => ?_) rfl (fun p hp q => ?_) (fun i s hi => ⟨(r.slot i s hi).ext hx fun b c ho hv f mb => ⟨mb, ?_⟩, s, hi, rfl⟩) fun i s b c hi ho hv f => f.of_eq (upd_ne fun z => an i s b hi ho hv (by rw [z]; exact .self))
  · rw [upd_ne fun z => by subst z; rw [hb] at h1; cases h1]; exact h3
  · by_cases z : b = a
    · rw [z, upd_same]; simp
    · rw [upd_ne z]; exact h
  · by_cases z : b = a
    · rw [z, upd_same]; simp
    · rw [upd_ne z]; exact r.trk b h
  · rw [upd_ne (np p hp)]; exact q
  · exact upd_ne fun z => an i s b hi ho (join_of hv) (by rw [← z]; exact f)
theorem Anon.write {a : Addr} {o : HO} (an : Anon H ρ σ a) : Anon (upd H a o) ρ σ a := an.mono fun i s b hi ho hv => ⟨s, hi, ho, hv, fun f => f.of_eq (upd_ne fun z => an i s b hi ho hv (by rw [z]; exact .self))⟩
theorem Rep.prot (r : Rep K B M H ρ σ) {a : Addr} {o : HO} (m : M a) (e : H a = some o) (an : Anon H ρ σ a) (hb : B.H a = none) : Rep K (B.with a o) M H ρ σ :=
  ⟨r.keep, r.old, r.sub, r.new, r.trk, r.len, r.slot, r.apart, fun p hp => by
    rcases List.mem_cons.mp hp with z | z
    · subst z; exact ⟨e, m, an, hb⟩
    · exact r.pr p z⟩
theorem Rep.unprot {a : Addr} {o : HO} (r : Rep K (B.with a o) M H ρ σ) : Rep K B M H ρ σ ∧ M a ∧ H a = some o ∧ Anon H ρ σ a :=
  ⟨⟨r.keep, r.old, r.sub, r.new, r.trk, r.len, r.slot, r.apart, fun p hp => r.pr p (List.mem_cons_of_mem _ hp)⟩, (r.pr _ List.mem_cons_self).2.1, (r.pr _ List.mem_cons_self).1, (r.pr _ List.mem_cons_self).2.2.1⟩
theorem Anon.wipe {a : Addr} (h : Anon H ρ σ a) : ∀ vs : List Nat, Anon H (wipeE ρ vs) (L2.wipe σ vs) a
  | [] => h
  | v :: vs => fun i s b hi ho hv => by
    unfold wipeE at hi
    unfold L2.wipe at hv
    by_cases e : i = v
    · subst e
      by_cases hl : i < (wipeE ρ vs).length
      · rw [List.getElem?_set_self hl] at hi; cases hi; cases ho
      · rw [List.getElem?_eq_none (by simpa using hl)] at hi; cases hi
    · rw [List.getElem?_set_ne (Ne.symm e)] at hi hv
      exact h.wipe vs i s b hi ho hv
end

/-! ### [e for x in xs if t] -/
def Res.noexc {α : Type} : Res α → Res α
  | .exc _ _ => .bad
  | r => r
def compL (g : D → Env → Option Env) (mt : TM) (me : EM) (vs : List Nat) : List D → List D → Env → Res (List D)
  | [], acc, ρ => .ok acc ρ
  | d :: ds, acc, ρ => match g d (wipeE ρ vs) with
    | none => .bad
    | some ρ2 => (mt ρ2).noexc.bind fun b ρ3 => if b then (me ρ3).noexc.bind fun z ρ4 => compL g mt me vs ds (acc ++ [z]) ρ4 else compL g mt me vs ds acc ρ3
def eComp (mi : Env → Res (List D)) (g : D → Env → Option Env) (mt : TM) (me : EM) (vs : List Nat) : EM := fun ρ => (mi ρ).bind fun ds ρ1 => (compL g mt me vs ds [] ρ1).bind fun acc ρe => .ok (.lst acc) (backE ρ1 vs (wipeE ρe vs))
section
variable {X : Cx} {W : WX}
theorem comp_sat {wi : TI} {mi : Env → Res (List D)} {g : D → Env → Option Env} {mt : TM} {me : EM} {vs : List Nat}
    (si : ∀ (B : Base) (M : Addr → Prop) (H : Hp) (ρ : Env) (σ : St) (Q : It → Hp → Prop), Rep X.K B M H ρ σ → Post X B W (fun M' H' _ ds J => ItOk X.K M' H' J ds ∧ ds.length ≤ sizeLine) M H σ (mi ρ) Q → wi σ H Q) :
    Sat X W (fun B σ => RelF X.K B σ) (tLc wi (tgCan X g vs) (ttCan X (fun _ _ _ _ => False) mt) (tCan X (fun _ _ _ _ => False) me) vs) (eComp mi g mt me vs) := by
  intro B M H ρ σ Q rp k
  refine si B M H ρ σ _ rp (Post.seq k fun ds ρ1 M1 H1 J x1 r1 q1 k1 => ?_)
  intro Da hD
  have hbD := r1.base_new (X := X) hD
  have npD := r1.pr_new (X := X) hD
  obtain ⟨T, hT⟩ : ∃ T, T = compL g mt me vs ds [] ρ1 := ⟨_, rfl⟩
  refine ⟨fun i n H' => n = ds.length - i ∧ i ≤ ds.length ∧ ∃ M' ρ' acc accV, Ext M1 H1 M' H' ∧ M' Da ∧ H' Da = some (.lst accV) ∧ RpL X.K M' H' acc accV ∧ acc.length ≤ i ∧ Rep X.K B M' H' (wipeE ρ' vs) (L2.wipe σ vs) ∧
    Anon H' (wipeE ρ' vs) (L2.wipe σ vs) Da ∧ Post X B W (fun _ _ _ _ (_ : Unit) => True) M' H' σ (compL g mt me vs (ds.drop i) acc ρ') (fun _ _ => True) ∧
    (∀ acc' ρe, compL g mt me vs (ds.drop i) acc ρ' = .ok acc' ρe → T = .ok acc' ρe), ⟨_, rfl, Nat.zero_le _, fun b => M1 b ∨ b = Da, ρ1, [], [], Ext.newO hD, .inr rfl, upd_same, .nil, Nat.le_refl _, (r1.allocO hD).wipe vs, (Rep.anon_newU (X := X) r1 hD rfl .self).wipe vs, ?_, fun _ _ e => hT.trans e⟩, ?_⟩
  · have e0 : ds.drop 0 = ds := rfl
    rw [e0]
    cases e : compL g mt me vs ds [] ρ1 with
    | ok a ρe => exact fun _ _ _ _ _ _ => trivial
    | exc x ρe =>
      have noexc : ∀ (ds acc : List D) (ρ : Env) x ρe, compL g mt me vs ds acc ρ ≠ .exc x ρe := by
        intro ds
        induction ds with
        | nil => intro acc ρ x ρe z; cases z
        | cons d ds ih =>
          intro acc ρ x ρe z
          unfold compL at z
          cases eg : g d (wipeE ρ vs) with
          | none => simp only [eg] at z; cases z
          | some ρ2 =>
            simp only [eg] at z
            cases et : mt ρ2 with
            | bad => simp only [et, Res.noexc, Res.bind] at z; cases z
            | exc _ _ => simp only [et, Res.noexc, Res.bind] at z; cases z
            | ok b ρ3 =>
              simp only [et, Res.noexc, Res.bind] at z
              cases b with
              | false => simp only [Bool.false_eq_true, if_false] at z; exact ih _ _ _ _ z
              | true =>
                simp only [if_true] at z
                cases em : me ρ3 with
                | bad => simp only [em] at z; cases z
                | exc _ _ => simp only [em] at z; cases z
                | ok y ρ4 => simp only [em] at z; exact ih _ _ _ _ z
      exact absurd e (noexc ds [] ρ1 x ρe)
    | bad => rw [e] at k1; exact k1.elim
  · rintro i n H2 ⟨rfl, hi, M2, ρ2, acc, accV, x2, mD, hDa, racc, hacc, r2, an2, pk, back⟩
    obtain ⟨stop, go⟩ := q1.1 M2 H2 x2
    cases hd : ds[i]? with
    | none =>
      have hl : ds.length ≤ i := List.getElem?_eq_none_iff.mp hd
      rw [List.drop_eq_nil_of_le hl] at back
      refine .inl ⟨stop i hl, ?_⟩
      have e := back acc ρ2 rfl
      rw [← hT, e] at k1
      have rb := r1.back x2 vs r2
      rw [back_wipe] at rb
      refine k1 M2 H2 (.ref Da) x2 rb ⟨Da, rfl, ⟨mD, Nat.le_trans hacc (Nat.le_trans hi q1.2), accV, hDa, racc⟩, fun c f => by rw [f.plain hDa rfl]; exact hbD, fun c f => ?_, fun c f => by rw [f.plain hDa rfl]; exact npD⟩
      rw [f.plain hDa rfl]
      intro j s a hj ho hv
      -- the slots of the block are values; the others are as they were
      have key : ∀ us : List Nat, ∀ j s, (backE ρ1 us (wipeE ρ2 vs))[j]? = some s → isOwn s = true → (wipeE ρ2 vs)[j]? = some s ∧ j ∉ us := by
        intro us
        induction us with
        | nil => exact fun j s h _ => ⟨h, by simp⟩
        | cons u us ih =>
          intro j s h ho
          unfold backE at h
          by_cases e : j = u
          · subst e
            by_cases hl : j < (backE ρ1 us (wipeE ρ2 vs)).length
            · rw [List.getElem?_set_self hl] at h
              cases h
              cases q : (ρ1[j]?.getD .no) <;> rw [q] at ho <;> cases ho
            · rw [List.getElem?_eq_none (by simpa using hl)] at h; cases h
          · rw [List.getElem?_set_ne (Ne.symm e)] at h
            obtain ⟨a1, a2⟩ := ih j s h ho
            exact ⟨a1, by simp [e, a2]⟩
      obtain ⟨h1, h2⟩ := key vs j s hj ho
      refine an2 j s a h1 ho ?_
      rw [wipe_out h2]
      exact hv
    | some d =>
      obtain ⟨hl, e⟩ := List.getElem?_eq_some_iff.mp hd
      rw [List.drop_eq_getElem_cons hl, e] at pk back
      obtain ⟨g1, yl⟩ := go i d hd
      refine .inr ⟨g1, fun H' => i + 1 ≤ ds.length ∧ ∃ M' ρ' acc accV, Ext M1 H1 M' H' ∧ M' Da ∧ H' Da = some (.lst accV) ∧ RpL X.K M' H' acc accV ∧ acc.length ≤ i + 1 ∧ Rep X.K B M' H' (wipeE ρ' vs) (L2.wipe σ vs) ∧
        Anon H' (wipeE ρ' vs) (L2.wipe σ vs) Da ∧ Post X B W (fun _ _ _ _ (_ : Unit) => True) M' H' σ (compL g mt me vs (ds.drop (i + 1)) acc ρ') (fun _ _ => True) ∧
        (∀ acc' ρe, compL g mt me vs (ds.drop (i + 1)) acc ρ' = .ok acc' ρe → T = .ok acc' ρe), fun H' z => ⟨ds.length - (i + 1), by omega, rfl, z⟩, fun x H3 hy => ?_⟩
      obtain ⟨keep, rx⟩ := yl x H3 hy
      have xk : Ext M2 H2 M2 H3 := fun b o eb _ => ⟨keep b o eb, fun n => n⟩
      have r3 : Rep X.K (B.with Da (.lst accV)) M2 H3 (wipeE ρ2 vs) (L2.wipe σ vs) := (r2.prot mD hDa an2 hbD).grow xk keep (fun _ z => z) (fun _ z => .inl z) fun b z => by
        cases q : H2 b with
        | none => exact absurd q (r2.trk b z)
        | some o => rw [keep b o q]; simp
      unfold compL at pk back
      cases eg : g d (wipeE ρ2 vs) with
      | none => simp only [eg] at pk; exact pk.elim
      | some ρ3 =>
        simp only [eg] at pk back
        refine ⟨_, M2, _, ρ3, d, r3, rx, eg, fun σ3 r4 on => ⟨wipe_ext on, _, M2, ρ3, r4, ?_⟩⟩
        cases et : mt ρ3 with
        | bad => simp only [et, Res.noexc, Res.bind] at pk; exact pk.elim
        | exc _ _ => simp only [et, Res.noexc, Res.bind] at pk; exact pk.elim
        | ok b ρ4 =>
          simp only [et, Res.noexc, Res.bind] at pk back
          intro M4 H4 b' x4 r5 eb
          cases eb
          have fin : ∀ (ρ5 : Env) (M5 : Addr → Prop) (H5 : Hp) (acc5 : List D) (accV5 : List V), Ext M2 H2 M5 H5 → M5 Da → H5 Da = some (.lst accV5) → RpL X.K M5 H5 acc5 accV5 → acc5.length ≤ i + 1 → Rep X.K B M5 H5 ρ5 σ3 → Anon H5 ρ5 σ3 Da →
              Post X B W (fun _ _ _ _ (_ : Unit) => True) M2 H2 σ (compL g mt me vs (ds.drop (i + 1)) acc5 ρ5) (fun _ _ => True) → (∀ acc' ρe, compL g mt me vs (ds.drop (i + 1)) acc5 ρ5 = .ok acc' ρe → T = .ok acc' ρe) →
              i + 1 ≤ ds.length ∧ ∃ M' ρ' acc accV, Ext M1 H1 M' H5 ∧ M' Da ∧ H5 Da = some (.lst accV) ∧ RpL X.K M' H5 acc accV ∧ acc.length ≤ i + 1 ∧ Rep X.K B M' H5 (wipeE ρ' vs) (L2.wipe σ vs) ∧
                Anon H5 (wipeE ρ' vs) (L2.wipe σ vs) Da ∧ Post X B W (fun _ _ _ _ (_ : Unit) => True) M' H5 σ (compL g mt me vs (ds.drop (i + 1)) acc ρ') (fun _ _ => True) ∧
                (∀ acc' ρe, compL g mt me vs (ds.drop (i + 1)) acc ρ' = .ok acc' ρe → T = .ok acc' ρe) := by
            intro ρ5 M5 H5 acc5 accV5 x5 m5 h5 ra5 l5 r6 an6 pk5 back5
            have rw5 := r6.wipe vs
            have aw5 := an6.wipe vs
            rw [wipe_ext on] at rw5 aw5
            exact ⟨hl, M5, ρ5, acc5, accV5, x2.trans x5, m5, h5, ra5, l5, rw5, aw5, Post.shift x5 pk5, back5⟩
          cases b with
          | false =>
            simp only [Bool.false_eq_true, if_false] at pk back
            obtain ⟨u1, u2, u3, u4⟩ := r5.unprot
            exact iteF (fin ρ4 M4 H4 acc accV (xk.trans x4) u2 u3 (RpL.ext (xk.trans x4) racc) (Nat.le_succ_of_le hacc) u1 u4 pk back)
          | true =>
            simp only [if_true] at pk back
            refine iteT ⟨_, M4, ρ4, r5, ?_⟩
            cases em : me ρ4 with
            | bad => simp only [em] at pk; exact pk.elim
            | exc _ _ => simp only [em] at pk; exact pk.elim
            | ok z ρ5 =>
              simp only [em] at pk back
              intro M5 H5 zv x5 r6 rz
              obtain ⟨u1, u2, u3, u4⟩ := r6.unprot
              have x25 := (xk.trans x4).trans x5
              have lacc := (RpL.length racc)
              refine ⟨accV, u3, by rw [← lacc]; have := q1.2; omega, ?_⟩
              have xw : Ext M5 H5 M5 (upd H5 Da (.lst (accV ++ [zv]))) := Ext.write u2 u3 fun z => z
              exact fin ρ5 M5 _ (acc ++ [z]) (accV ++ [zv]) (x25.trans xw) u2 upd_same (RpL.append (RpL.ext (x25.trans xw) racc) (.cons (Rp.ext xw rz) .nil)) (by rw [List.length_append]; exact Nat.succ_le_succ hacc)
                (u1.writeAnon u2 u3 u4 hbD npD fun z => z) u4.write pk back
theorem df_comp {elt tg iter : Expr} {ifs : List Expr} {scope : Scope} {own : List (Str × Nat)} {pos : Pos} {mi : Env → Res (List D)} {g : D → Env → Option Env} {mt : TM} {me : EM} {vs : List Nat} (c : Cd X) (hN : X.N.Nodup) (hi : DI X W tg iter mi) (ok : BlkOk X.N X.env.scope scope own)
    (hg : ∀ (s : Shared) (H : Hp) (C : Addr) (cl : List (Str × Addr)) (fp : List Addr), DG (X.blk s H scope (compEnvC scope cl C X.env) fp) tg g vs)
    (ht : ∀ (s : Shared) (H : Hp) (C : Addr) (cl : List (Str × Addr)) (fp : List Addr), DTs (X.blk s H scope (compEnvC scope cl C X.env) fp) (fun _ _ _ _ => False) ifs mt)
    (he : ∀ (s : Shared) (H : Hp) (C : Addr) (cl : List (Str × Addr)) (fp : List Addr), DE (X.blk s H scope (compEnvC scope cl C X.env) fp) (fun _ _ _ _ => False) elt me) (ev : own.map (·.2) = vs := by rfl) (hs : ∀ x, foldedSetIterable iter X.env x = pure x := by intro _; rfl) :
    DF X W (.ListComp elt [⟨tg, iter, ifs, 0⟩] scope pos) (eComp mi g mt me vs) := by
  obtain ⟨wi, pi, si⟩ := hi
  subst ev
  exact ⟨_, pe_lc (tt := ttCan X (fun _ _ _ _ => False) mt) c.calm hN pi ok (fun s H C cl fp => can_g (hg s H C cl fp)) (fun s H C cl fp => ht s H C cl fp) (fun s H C cl fp => can_e (he s H C cl fp)) hs, comp_sat si⟩
end
end NV

set_option Elab.async false
set_option linter.all false
set_option maxRecDepth 100000
set_option maxHeartbeats 4000000
/-! Core7: defs and their calls. -/
namespace NV
open PySem PySem.Spec PyProof.Rows L2

/-- what a def does: its answer, what its owned parameters hold then -/
inductive FRes where
  | ok (r : D) (os : List D)
  | okF (r : D) (os : List D)
  | exc (x : Exn) (os : List D)
  | bad

/-- the promise of a def that does F; fl: which parameters are owned -/
def spF (K : PySem.W.Frag) (mg : Str → Option Value) (fl : List Bool) (F : List D → FRes) : Sp := fun vs H Q E => ∃ (M : Addr → Prop) (ds : List D) (as : List Addr), (∀ b, M b → H b ≠ none) ∧ FApart H as ∧ ArgR K M H fl ds vs as ∧ match F ds with
  | .ok r os => ∀ H' v, Kept as H H' → FSub as H H' → Paired (Ow K M H') os as → Rp K M H' r v → Q v H'
  | .okF r os => ∀ H' a, Kept as H H' → FSub as H H' → (∀ c, Foot H' a c → H c = none) → Paired (Ow K (fun b => M b ∨ Foot H' a b) H') os as → Ow K (fun b => M b ∨ Foot H' a b) H' r a → Q (.ref a) H'
  | .exc x os => ∀ H' c dx, Kept as H H' → FSub as H H' → Paired (Ow K M H') os as → ExR K mg M H' x c dx → E c dx H'
  | .bad => False

/-! ### a body -/
def fin (fl : List Bool) (f : List D → FRes) (ρ : Env) : FRes := match owns fl ρ with
  | some os => f os
  | none => .bad
def runF (fl : List Bool) (n : Nat) (m : SM) (ds : List D) : FRes := if ds.length = fl.length then match m (slotsOf fl ds ++ List.replicate (n - ds.length) .no) with
  | .nx ρ => fin fl (.ok .non) ρ
  | .rt d ρ => fin fl (.ok d) ρ
  | .rtF d ρ => fin fl (.okF d) ρ
  | .exc x ρ => fin fl (.exc x) ρ
  | _ => .bad else .bad

section
variable {K : PySem.W.Frag} {M M' : Addr → Prop} {H H' : Hp}
theorem paOf_mem : ∀ {fl : List Bool} {as : List Addr} {i : Nat} {a : Addr}, paOf fl as i = some a → a ∈ as
  | [], _, _, _, h => by cases h
  | false :: fs, as, 0, _, h => by cases h
  | false :: fs, as, i + 1, _, h => paOf_mem (fl := fs) h
  | true :: fs, [], _, _, h => by cases h
  | true :: fs, b :: as, 0, _, h => by cases h; exact List.mem_cons_self
  | true :: fs, b :: as, i + 1, _, h => List.mem_cons_of_mem _ (paOf_mem (fl := fs) h)
theorem paOf_apart : ∀ {fl : List Bool} {as : List Addr} {i j : Nat} {a b : Addr}, FApart H as → i ≠ j → paOf fl as i = some a → paOf fl as j = some b → ∀ c, Foot H a c → Foot H b c → False
  | [], _, _, _, _, _, _, _, h, _ => by cases h
  | false :: fs, as, 0, _, _, _, _, _, h, _ => by cases h
  | false :: fs, as, i + 1, 0, _, _, _, _, _, h => by cases h
  | false :: fs, as, i + 1, j + 1, _, _, n, ne, h1, h2 => paOf_apart (fl := fs) n (fun z => ne (congrArg _ z)) h1 h2
  | true :: fs, [], _, _, _, _, _, _, h, _ => by cases h
  | true :: fs, b :: as, 0, 0, _, _, _, ne, _, _ => absurd rfl ne
  | true :: fs, b :: as, 0, j + 1, _, _, n, _, h1, h2 => by
    cases h1
    exact (List.pairwise_cons.mp n).1 _ (paOf_mem (fl := fs) h2)
  | true :: fs, b :: as, i + 1, 0, _, _, n, _, h1, h2 => by
    cases h2
    exact fun c f1 f2 => (List.pairwise_cons.mp n).1 _ (paOf_mem (fl := fs) h1) c f2 f1
  | true :: fs, b :: as, i + 1, j + 1, _, _, n, ne, h1, h2 => paOf_apart (fl := fs) (List.pairwise_cons.mp n).2 (fun z => ne (congrArg _ z)) h1 h2
theorem slotsOf_length : ∀ {fl : List Bool} {ds : List D}, ds.length = fl.length → (slotsOf fl ds).length = fl.length
  | [], [], _ => rfl
  | false :: fs, d :: ds, h => by simp [slotsOf, slotsOf_length (fl := fs) (ds := ds) (by simpa using h)]
  | true :: fs, d :: ds, h => by simp [slotsOf, slotsOf_length (fl := fs) (ds := ds) (by simpa using h)]
theorem as_len : ∀ {fl : List Bool} {ds : List D} {vs : List V} {as : List Addr}, ArgR K M H fl ds vs as → ∀ a ∈ as, ∃ i, paOf fl as i = some a
  | [], [], [], [], _, a, h => by cases h
  | false :: fs, d :: ds, v :: vs, as, hh, a, h => by
    obtain ⟨i, e⟩ := as_len hh.2 a h
    exact ⟨i + 1, e⟩
  | true :: fs, d :: ds, v :: vs, b :: as, hh, a, h => by
    rcases List.mem_cons.mp h with e | h
    · subst e; exact ⟨0, rfl⟩
    · obtain ⟨i, e⟩ := as_len hh.2.2 a h
      exact ⟨i + 1, e⟩
/-- the owned parameters' contents at the end -/
theorem owns_rep {fl0 : List Bool} {as0 : List Addr} {Pd : D → Addr → Prop} : ∀ {fl : List Bool} {as : List Addr} {ds : List D} {vs : List V} {ρ : Env} {os : List D} (k : Nat), ArgR K M H fl ds vs as → (∀ i, paOf fl as i = paOf fl0 as0 (i + k)) → owns fl ρ = some os →
    (∀ i s, ρ[i]? = some s → ∀ d, s = .p d → ∃ a, Pd d a ∧ paOf fl0 as0 (i + k) = some a) → Paired Pd os as
  | [], as, ds, vs, ρ, os, k, hh, _, h, _ => by
    cases ds <;> cases vs <;> cases as <;> first | exact hh.elim | (cases h; exact .nil)
  | false :: fs, as, [], vs, ρ, os, k, hh, hp, h, hs => hh.elim
  | false :: fs, as, d :: ds, [], ρ, os, k, hh, hp, h, hs => hh.elim
  | true :: fs, as, [], vs, ρ, os, k, hh, hp, h, hs => hh.elim
  | true :: fs, as, d :: ds, [], ρ, os, k, hh, hp, h, hs => hh.elim
  | true :: fs, [], d :: ds, v :: vs, ρ, os, k, hh, hp, h, hs => hh.elim
  | false :: fs, as, d :: ds, v :: vs, ρ, os, k, hh, hp, h, hs => by
    cases ρ with
    | nil => cases h
    | cons s ρ =>
      have hs' : ∀ i s, ρ[i]? = some s → ∀ d, s = .p d → ∃ a, Pd d a ∧ paOf fl0 as0 (i + (k + 1)) = some a := by
        intro i s hi d e
        have q := hs (i + 1) s (by simpa using hi) d e
        rw [show i + (k + 1) = (i + 1) + k by omega]
        exact q
      have hp' : ∀ i, paOf fs as i = paOf fl0 as0 (i + (k + 1)) := by
        intro i
        rw [show i + (k + 1) = (i + 1) + k by omega, ← hp (i + 1)]
        rfl
      exact owns_rep (k + 1) hh.2 hp' h hs'
  | true :: fs, a :: as, d :: ds, v :: vs, ρ, os, k, hh, hp, h, hs => by
    cases ρ with
    | nil => cases h
    | cons s ρ =>
      cases s with
      | p x =>
        unfold owns at h
        cases e : owns fs ρ with
        | none => rw [e] at h; cases h
        | some os' =>
          rw [e] at h
          cases h
          have hs' : ∀ i s, ρ[i]? = some s → ∀ d, s = .p d → ∃ a, Pd d a ∧ paOf fl0 as0 (i + (k + 1)) = some a := by
            intro i s hi d e
            have q := hs (i + 1) s (by simpa using hi) d e
            rw [show i + (k + 1) = (i + 1) + k by omega]
            exact q
          have hp' : ∀ i, paOf fs as i = paOf fl0 as0 (i + (k + 1)) := by
            intro i
            rw [show i + (k + 1) = (i + 1) + k by omega, ← hp (i + 1)]
            rfl
          refine .cons ?_ (owns_rep (k + 1) hh.2.2 hp' e hs')
          obtain ⟨a', w, e'⟩ := hs 0 _ rfl x rfl
          have e2 := hp 0
          rw [e'] at e2
          have e2 : some a = some a' := e2
          cases e2
          exact w
      | _ => cases h
end
theorem start_get {N : List Str} {vs : List V} {i : Nat} : (L2.start N vs)[i]?.join = vs[i]? := by
  unfold L2.start
  by_cases h : i < vs.length
  · rw [List.getElem?_append_left (by simpa using h), List.getElem?_map, List.getElem?_eq_getElem h]
    rfl
  · rw [List.getElem?_append_right (by simpa using h), List.getElem?_replicate, List.getElem?_eq_none (by omega)]
    split <;> rfl
/-- a body's reading serves the def's promise -/
theorem fn_body {X : Cx} {N ps : List Str} {scope : Scope} {fl : List Bool} {m : SM} {t : TS} {E : XK} {Q : VK} {vs : List V} {H : Hp} (S : FnScope N ps scope) (hf : fl.length = ps.length)
    (sat : SatS X (fun c dx _ H' => E c dx H') t m) (hs : spF X.K X.mg fl (runF fl N.length m) vs H Q E) : t { nx := fun _ H' => Q .non H', rt := Q } (L2.start N vs) H := by
  obtain ⟨M, ds, as, mt, nd, ha, hsp⟩ := hs
  obtain ⟨lv, ld⟩ := ha.len
  have hN : ps.length ≤ N.length := by have := congrArg List.length S.pre; rw [List.length_take] at this; omega
  have pt : ∀ i a c, paOf fl as i = some a → Foot H a c → H c ≠ none := fun i a c hi f => by
    have go : ∀ {fl : List Bool} {ds : List D} {vs : List V} {as : List Addr}, ArgR X.K M H fl ds vs as → ∀ a ∈ as, ∀ c, Foot H a c → H c ≠ none := by
      intro fl
      induction fl with
      | nil => intro ds vs as h a hm; cases ds <;> cases vs <;> cases as <;> first | exact h.elim | (cases hm; done)
      | cons b fl ih =>
        intro ds vs as h a hm
        cases b with
        | false => cases ds <;> cases vs <;> first | exact h.elim | exact ih h.2 a hm
        | true =>
          cases ds <;> cases vs <;> cases as <;> first | exact h.elim | skip
          rcases List.mem_cons.mp hm with e | hm
          · subst e
            intro c f
            obtain ⟨_, o, q, _⟩ := h.2.1.foot f
            rw [q]; intro z; cases z
          · exact ih h.2.2 a hm
    exact go ha a (paOf_mem hi) c f
  have pm : ∀ i a c, paOf fl as i = some a → Foot H a c → M c := fun i a c hi f => by
    have go : ∀ {fl : List Bool} {ds : List D} {vs : List V} {as : List Addr}, ArgR X.K M H fl ds vs as → ∀ a ∈ as, ∀ c, Foot H a c → M c := by
      intro fl
      induction fl with
      | nil => intro ds vs as h a hm; cases ds <;> cases vs <;> cases as <;> first | exact h.elim | (cases hm; done)
      | cons b fl ih =>
        intro ds vs as h a hm
        cases b with
        | false => cases ds <;> cases vs <;> first | exact h.elim | exact ih h.2 a hm
        | true =>
          cases ds <;> cases vs <;> cases as <;> first | exact h.elim | skip
          rcases List.mem_cons.mp hm with e | hm
          · subst e
            exact fun c f => (h.2.1.foot f).1
          · exact ih h.2.2 a hm
    exact go ha a (paOf_mem hi) c f
  have ap : ∀ i j a b c, i ≠ j → paOf fl as i = some a → paOf fl as j = some b → Foot H a c → Foot H b c → False := fun i j a b c ne h1 h2 => paOf_apart nd ne h1 h2 c
  have rep : Rep X.K ⟨M, H, paOf fl as, [], mt, ap, pt, pm⟩ M H (slotsOf fl ds ++ List.replicate (N.length - ds.length) .no) (L2.start N vs) := by
    refine ⟨fun b o e _ => e, fun b h => h, fun b h => h, fun b h => .inl h, mt, ?_, fun i s hi => ?_, fun i j s t a b c ne hi hj hs ht vi vj => ?_, fun p hp => by cases hp⟩
    · unfold L2.start
      rw [List.length_append, List.length_append, slotsOf_length ld, List.length_map, List.length_replicate, List.length_replicate, lv, ld]
    · rw [start_get]
      have q := ha.slot (n := N.length - ds.length) i s hi
      cases s with
      | no => trivial
      | v d => exact q
      | o d => exact q.elim
      | p d =>
        obtain ⟨a, h1, h2, h3⟩ := q
        exact ⟨a, h1, h2, h3, fun _ f => f⟩
    · have q1 := ha.slot (n := N.length - ds.length) i s hi
      have q2 := ha.slot (n := N.length - ds.length) j t hj
      cases s with
      | p d =>
        cases t with
        | p e =>
          obtain ⟨a1, e1, _, p1⟩ := q1
          obtain ⟨a2, e2, _, p2⟩ := q2
          rw [← start_get (N := N), of_join vi] at e1
          rw [← start_get (N := N), of_join vj] at e2
          cases e1
          cases e2
          exact paOf_apart nd ne p1 p2 c
        | no => cases ht
        | v _ => cases ht
        | o _ => exact q2.elim
      | no => cases hs
      | v _ => cases hs
      | o _ => exact q1.elim
  refine sat _ M H _ (L2.start N vs) _ rep ?_
  unfold runF at hsp
  rw [if_pos ld] at hsp
  have keep : ∀ {M' : Addr → Prop} {H' : Hp} {ρ : Env} {σ' : St}, Rep X.K ⟨M, H, paOf fl as, [], mt, ap, pt, pm⟩ M' H' ρ σ' → Kept as H H' := fun r b o e hb => r.keep b o e fun i a hi => hb a (paOf_mem hi)
  have own : ∀ {M' : Addr → Prop} {H' : Hp} {ρ : Env} {σ' : St} {os : List D}, Rep X.K ⟨M, H, paOf fl as, [], mt, ap, pt, pm⟩ M' H' ρ σ' → owns fl ρ = some os → Paired (fun d a => Ow X.K M' H' d a ∧ ∀ c, Foot H' a c → Foot H a c) os as := fun {M' H' ρ σ' os} r ho =>
    owns_rep (fl0 := fl) (as0 := as) (Pd := fun d a => Ow X.K M' H' d a ∧ ∀ c, Foot H' a c → Foot H a c) 0 ha (fun i => rfl) ho fun i s hi d e => by
      subst e
      obtain ⟨a, _, w, pa, fs⟩ := r.slot i _ hi
      exact ⟨a, ⟨w, fs⟩, pa⟩
  have fsub : ∀ {M' : Addr → Prop} {H' : Hp} {os : List D}, Paired (fun d a => Ow X.K M' H' d a ∧ ∀ c, Foot H' a c → Foot H a c) os as → (∀ b, H b ≠ none → H' b ≠ none) → FSub as H H' := by
    intro M' H' os h tr
    have go : ∀ {os : List D} {as : List Addr}, Paired (fun d a => Ow X.K M' H' d a ∧ ∀ c, Foot H' a c → Foot H a c) os as → ∀ a ∈ as, ∀ c, Foot H' a c → Foot H a c := by
      intro os as h
      induction h with
      | nil => intro a z; cases z
      | cons a b ih =>
        intro c z
        rcases List.mem_cons.mp z with e | z
        · subst e; exact a.2
        · exact ih c z
    exact ⟨go h, tr⟩
  have down : ∀ {M' M2 : Addr → Prop} {H' : Hp} {os : List D}, (∀ b, M2 b → M' b) → (∀ a ∈ as, ∀ c, Foot H a c → M2 c) → Paired (fun d a => Ow X.K M' H' d a ∧ ∀ c, Foot H' a c → Foot H a c) os as → Paired (Ow X.K M2 H') os as := by
    intro M' M2 H' os hsub hm h
    have x : Ext M' H' M2 H' := Ext.sub hsub
    have go : ∀ (os : List D) (as : List Addr), (∀ a ∈ as, ∀ c, Foot H a c → M2 c) → Paired (fun d a => Ow X.K M' H' d a ∧ ∀ c, Foot H' a c → Foot H a c) os as → Paired (Ow X.K M2 H') os as := by
      intro os as hm h
      induction h with
      | nil => exact .nil
      | cons a b ih => exact .cons (a.1.ext x fun c f => ⟨hm _ List.mem_cons_self c (a.2 c f), rfl⟩) (ih fun c hc => hm c (List.mem_cons_of_mem _ hc))
    exact go os as hm h
  have asM : ∀ a ∈ as, ∀ c, Foot H a c → M c := fun a h => by
    obtain ⟨i, e⟩ := as_len ha a h
    -- the parameter's own slot
    have go : ∀ {fl : List Bool} {ds : List D} {vs : List V} {as : List Addr}, ArgR X.K M H fl ds vs as → ∀ a ∈ as, ∀ c, Foot H a c → M c := by
      intro fl
      induction fl with
      | nil => intro ds vs as h a hm; cases ds <;> cases vs <;> cases as <;> first | exact h.elim | (cases hm; done)
      | cons b fl ih =>
        intro ds vs as h a hm
        cases b with
        | false => cases ds <;> cases vs <;> first | exact h.elim | exact ih h.2 a hm
        | true =>
          cases ds <;> cases vs <;> cases as <;> first | exact h.elim | skip
          rcases List.mem_cons.mp hm with e | hm
          · subst e; exact fun c f => (h.2.1.foot f).1
          · exact ih h.2.2 a hm
    exact go ha a h
  cases em : m (slotsOf fl ds ++ List.replicate (N.length - ds.length) .no) with
  | nx ρ =>
    rw [em] at hsp
    unfold fin at hsp
    cases eo : owns fl ρ with
    | none => simp only [eo] at hsp
    | some os =>
      simp only [eo] at hsp
      exact fun M' H' σ' x r => hsp H' .non (keep r) (fsub (own r eo) r.old) (down (fun b h => r.sub b h) asM (own r eo)) .non
  | rt d ρ =>
    rw [em] at hsp
    unfold fin at hsp
    cases eo : owns fl ρ with
    | none => simp only [eo] at hsp
    | some os =>
      simp only [eo] at hsp
      exact fun M' H' σ' v x r q => hsp H' v (keep r) (fsub (own r eo) r.old) (down (fun b h => r.sub b h) asM (own r eo)) (Rp.ext (Ext.sub fun b h => r.sub b h) q)
  | rtF d ρ =>
    rw [em] at hsp
    unfold fin at hsp
    cases eo : owns fl ρ with
    | none => simp only [eo] at hsp
    | some os =>
      simp only [eo] at hsp
      intro M' H' σ' v x r ⟨a, ev, w, hb, an, _⟩
      subst ev
      have hsub : ∀ b, M b ∨ Foot H' a b → M' b := fun b h => h.elim (r.sub b) fun e => (w.foot e).1
      exact hsp H' a (keep r) (fsub (own r eo) r.old) hb (down hsub (fun b h c f => .inl (asM b h c f)) (own r eo)) (w.ext (Ext.sub hsub) fun c f => ⟨.inr f, rfl⟩)
  | exc xx ρ =>
    rw [em] at hsp
    unfold fin at hsp
    cases eo : owns fl ρ with
    | none => simp only [eo] at hsp
    | some os =>
      simp only [eo] at hsp
      refine fun M' H' σ' c dx x r q => hsp H' c dx (keep r) (fsub (own r eo) r.old) (down (fun b h => r.sub b h) asM (own r eo)) ?_
      obtain ⟨C, h1, h2, h3⟩ := q
      refine ⟨C, h1, h2, ?_⟩
      split at h3
      · exact h3
      · obtain ⟨a, v, e1, nm, e2, e3⟩ := h3
        exact ⟨a, v, e1, fun z => nm (r.sub a z), e2, Rp.ext (Ext.sub fun b h => r.sub b h) e3⟩
      · exact h3
  | bk ρ => rw [em] at hsp; exact hsp.elim
  | ct ρ => rw [em] at hsp; exact hsp.elim
  | bad => rw [em] at hsp; exact hsp.elim
/-- THE RULE for a def -/
theorem fn_def {P : Program} {w : World} {K : PySem.W.Frag} {mg : Str → Option Value} {base : Heap} {x qual : Str} {st : Stmt} {f : Addr} {fd : FuncData} {N ps : List Str} {k : Nat} {fl : List Bool} {m : SM} (F : L2.Fun K x qual st f fd) (S : FnScope N ps (defScope st)) (hf : fl.length = ps.length)
    (der : ∀ (cdv : Value) (A : Around) (outer : List PySem.Env) (s : Shared) (H : Hp) (E : XK), Room k (A.deeper (envOfC qual (defScope st) s.heap.objs.size f cdv)) →
      DSs (cxOf (L2.CX P w) P w K mg base N qual (defScope st) f cdv A outer s H E) (fun c dx _ H' => E c dx H') (defBody st) m) : FnOk P w K mg base (L2.CX P w) (k + 1) f fd ps (spF K mg fl (runF fl N.length m)) := by
  refine Fun.okX F S (fun vs H Q E ⟨M, ds, as, _, _, h, _⟩ => by rw [h.len.1, hf]) fun cdv A outer s H vs Q E hr hs => ?_
  obtain ⟨t, pt, sat⟩ := der cdv A outer s H E hr
  exact ⟨t, pt, fn_body (X := cxOf (L2.CX P w) P w K mg base N qual (defScope st) f cdv A outer s H E) S hf sat hs⟩
end NV

set_option Elab.async false
set_option linter.all false
set_option maxRecDepth 100000
set_option maxHeartbeats 4000000
/-! Core8: calls of defs. -/
namespace NV
open PySem PySem.Spec PyProof.Rows L2

/-! ### data without lists inside -/
section
variable {K : PySem.W.Frag} {M M' : Addr → Prop} {H : Hp}
end

theorem Ow.noXd {K : PySem.W.Frag} {M : Addr → Prop} {H : Hp} {d : D} {a c : Addr} {fs : List (Str × V)} (w : Ow K M H d a) (f : Foot H a c) (e : H c = some (.xd fs)) : False := by
  cases d with
  | lst ds => obtain ⟨_, _, vs, q, _⟩ := w; rw [f.plain q rfl, q] at e; cases e
  | dct ds => obtain ⟨_, _, vs, q, _⟩ := w; rw [f.plain q rfl, q] at e; cases e
  | dt ds => obtain ⟨_, _, vs, q, _⟩ := w; rw [f.plain q rfl, q] at e; cases e
  | obj ds kvs =>
    obtain ⟨_, l, dx, b, vs, ws, e1, r1, mb, l2, e2, r2⟩ := w
    rcases f with f | ⟨o, f1, f2⟩
    · rw [f, e1] at e; cases e
    · rw [e1] at f1
      cases f1
      rw [told_hFs l r1] at f2
      cases f2
      rw [e2] at e
      cases e
  | _ => exact w.elim

/-! ### the arguments -/
def ownIdx : List Bool → List RV → Option (List Nat)
  | [], [] => some []
  | false :: fs, _ :: rs => ownIdx fs rs
  | true :: fs, .own i :: rs => (ownIdx fs rs).map fun is => i :: is
  | _, _ => none
/-- owned objects that are only lent -/
def lent : List Bool → List RV → List Nat
  | false :: fs, .own i :: rs => i :: lent fs rs
  | false :: fs, _ :: rs => lent fs rs
  | true :: fs, _ :: rs => lent fs rs
  | _, _ => []
/-- no slot is handed in twice -/
def ndB : List Nat → Bool
  | [] => true
  | [_] => true
  | i :: j :: is => !((j :: is).contains i) && ndB (j :: is)
@[simp] theorem ndB_nil : ndB [] = true := rfl
@[simp] theorem ndB_one (i : Nat) : ndB [i] = true := rfl
def lentOk (l : List Nat) (r : D) (os : List D) : Bool := l.isEmpty || (r.flat && os.all D.flatO)
def lentOkF (l : List Nat) (r : D) (os : List D) : Bool := l.isEmpty || (r.flatO && os.all D.flatO)
/-- behind the arguments of a call of F -/
def callG (fl : List Bool) (fr : Bool) (F : List D → FRes) (rs : List RV) (ρ : Env) : Res D := match getAll ρ rs, ownIdx fl rs with
  | some ds, some is => if (ndB is && is.all fun i => !(lent fl rs).contains i) = true then match F ds with
      | .ok r os => if fr = false ∧ lentOk (lent fl rs) r os = true then ofO (upO ρ is os) ρ |>.bind fun ρ' _ => .ok r ρ' else .bad
      | .okF r os => if fr = true ∧ lentOkF (lent fl rs) r os = true then ofO (upO ρ is os) ρ |>.bind fun ρ' _ => .ok r ρ' else .bad
      | .exc x os => if lentOk (lent fl rs) (.tup x.fs) os = true then ofO (upO ρ is os) ρ |>.bind fun ρ' _ => .exc x ρ' else .bad
      | .bad => .bad
    else .bad
  | _, _ => .bad
def eCall (fl : List Bool) (fr : Bool) (F : List D → FRes) (ma : AM) : EM := fun ρ => (ma ρ).bind (callG fl fr F)

section
variable {K : PySem.W.Frag} {B : Base} {M M' : Addr → Prop} {H H' : Hp} {ρ ρ2 : Env} {σ : St}
theorem ndB_nodup : ∀ {is : List Nat}, ndB is = true → is.Nodup
  | [], _ => List.nodup_nil
  | [_], _ => by simp
  | i :: j :: is, h => by
    unfold ndB at h
    rw [Bool.and_eq_true] at h
    refine List.nodup_cons.mpr ⟨fun z => ?_, ndB_nodup h.2⟩
    have q := h.1
    rw [List.contains_iff_mem.mpr z] at q
    cases q
/-- what belongs to a slot's object did so ahead of the call -/
theorem Rep.calledF (r : Rep K B M H ρ σ) {is : List Nat} {as : List Addr} (hi : OwnAt ρ σ is as) (hk : Kept as H H') (hs : FSub as H H') {j : Nat} {s : Slot} {b c : Addr} (hj : ρ[j]? = some s) (ho : isOwn s = true) (hv : σ[j]? = some (some (V.ref b))) (f : Foot H' b c) : Foot H b c := by
  by_cases m : b ∈ as
  · exact hs.1 b m c f
  · obtain ⟨d, w, _⟩ := r.ownAt hj ho hv
    obtain ⟨o, q, _⟩ := w.there
    refine f.of_eq ?_
    rw [q]
    refine hk b o q fun a ha f' => ?_
    obtain ⟨i, t, _, h1, h2, h3⟩ := hi.at ha
    by_cases e : i = j
    · subst e
      rw [hv] at h3
      cases h3
      exact m ha
    · exact r.apart i j t s a b b e h1 hj h2 ho h3 hv f' .self
/-- the arguments as the called def takes them -/
theorem args_of {ρ' : Env} (r : Rep K B M H ρ σ) (l : List Nat) (hl : ∀ j ∈ l, ∃ s, ρ[j]? = some s ∧ isOwn s = true) : ∀ {fl : List Bool} {rs : List RV} {vs : List V} {ds : List D} {is : List Nat}, Paired (fun r v => RelR K σ M H ρ' r v) rs vs → getAll ρ rs = some ds → ownIdx fl rs = some is →
    (∀ j ∈ lent fl rs, j ∈ l) → (∀ i ∈ is, i ∉ l) → ∃ as, ArgR K (Lend l M H σ) H fl ds vs as ∧ OwnAt ρ σ is as
  | [], [], vs, ds, is, h, g, o, _, _ => by
    cases h; cases g; cases o
    exact ⟨[], trivial, .nil⟩
  | [], _ :: _, vs, ds, is, h, g, o, _, _ => by cases o
  | false :: fs, [], vs, ds, is, h, g, o, _, _ => by cases o
  | true :: fs, [], vs, ds, is, h, g, o, _, _ => by cases o
  | false :: fs, x :: rs, vs, ds, is, h, g, o, hj, hi => by
    cases h with
    | cons hx h =>
      unfold getAll at g
      cases e1 : x.get ρ with
      | none => rw [e1] at g; cases g
      | some d =>
        rw [e1] at g
        cases e2 : getAll ρ rs with
        | none => rw [e2] at g; cases g
        | some ds' =>
          rw [e2] at g
          cases g
          have hj2 : ∀ j ∈ lent fs rs, j ∈ l := fun j hm => hj j (by
            cases x with
            | val _ => exact hm
            | own _ => exact List.mem_cons_of_mem _ hm)
          obtain ⟨as, q1, q2⟩ := args_of r l hl (fl := fs) h e2 o hj2 hi
          refine ⟨as, ⟨?_, q1⟩, q2⟩
          cases x with
          | val d' => cases e1; exact Rp.ext (Ext.sub fun _ z => z.1) hx
          | own j =>
            obtain ⟨a, s, h1, h2, h3, w, _⟩ := own_at r e1
            have hv : σ[j]? = some (some _) := hx
            rw [h3] at hv
            cases hv
            exact Rp.ext (Ext.sub fun b z => ⟨z.1, fun eb => z.2 j (hj j List.mem_cons_self) a h3 eb⟩) w.rp
  | true :: fs, .val _ :: rs, vs, ds, is, h, g, o, hj, hi => by cases o
  | true :: fs, .own i :: rs, vs, ds, is, h, g, o, hj, hi => by
    cases h with
    | cons hx h =>
      unfold getAll at g
      cases e1 : (RV.own i).get ρ with
      | none => rw [e1] at g; cases g
      | some d =>
        rw [e1] at g
        cases e2 : getAll ρ rs with
        | none => rw [e2] at g; cases g
        | some ds' =>
          rw [e2] at g
          cases g
          cases e3 : ownIdx fs rs with
          | none => simp only [ownIdx, e3] at o; cases o
          | some is' =>
            simp only [ownIdx, e3] at o
            cases o
            obtain ⟨as, q1, q2⟩ := args_of r l hl (fl := fs) h e2 e3 hj fun i hm => hi i (List.mem_cons_of_mem _ hm)
            obtain ⟨a, s, h1, h2, h3, w, _⟩ := own_at r e1
            have hv : σ[i]? = some (some _) := hx
            rw [h3] at hv
            cases hv
            refine ⟨a :: as, ⟨rfl, w.ext (Ext.sub fun _ z => z.1) fun c f => ⟨⟨(w.foot f).1, fun j hm a' e f' => ?_⟩, rfl⟩, q1⟩, .cons h1 h2 h3 q2⟩
            obtain ⟨t, t1, t2⟩ := hl j hm
            exact r.apart i j s t a a' c (fun eij => hi i List.mem_cons_self (eij ▸ hm)) h1 t1 h2 t2 h3 e f f'
theorem lent_own {ρ : Env} : ∀ {fl : List Bool} {rs : List RV} {ds : List D}, getAll ρ rs = some ds → ∀ j ∈ lent fl rs, ∃ s, ρ[j]? = some s ∧ isOwn s = true
  | [], _, _, _, j, h => by cases h
  | false :: _, [], _, _, j, h => by cases h
  | true :: _, [], _, _, j, h => by cases h
  | b :: fs, x :: rs, ds, g, j, h => by
    unfold getAll at g
    cases e1 : x.get ρ with
    | none => rw [e1] at g; cases g
    | some d =>
      rw [e1] at g
      cases e2 : getAll ρ rs with
      | none => rw [e2] at g; cases g
      | some ds' =>
        rw [e2] at g
        have ih := lent_own (fl := fs) e2
        cases b with
        | true => exact ih j h
        | false =>
          cases x with
          | val _ => exact ih j h
          | own i =>
            rcases List.mem_cons.mp h with e | h
            · subst e
              unfold RV.get at e1
              cases e3 : ρ[j]? with
              | none => simp only [e3] at e1; cases e1
              | some s =>
                simp only [e3] at e1
                refine ⟨s, rfl, ?_⟩
                cases s with
                | no => cases e1
                | v _ => cases e1
                | o _ => rfl
                | p _ => rfl
            · exact ih j h
end

section
variable {X : Cx} {W : WX} {k : Nat} {f : Addr} {fd : FuncData} {ps : List Str} {x : Str} {p pos : Pos} {e : Expr} {es : List Expr} {fl : List Bool} {F : List D → FRes} {ma : AM} {t : TA}
theorem lend_backO {K : PySem.W.Frag} {N N' : Addr → Prop} {H : Hp} {l : List Nat} {d : D} {a : Addr} (h : Ow K N H d a) (hs : ∀ b, N b → N' b) (hN : l = [] → ∀ b, N' b → N b) (hf : (l.isEmpty || d.flatO) = true) : Ow K N' H d a := by
  cases l with
  | nil => exact h.ext (fun b o e _ => ⟨e, fun n z => n (hN rfl b z)⟩) fun c f => ⟨hs _ (h.foot f).1, rfl⟩
  | cons b l => exact h.flat (by simpa using hf) fun c f => hs _ (h.foot f).1
theorem lend_backP {K : PySem.W.Frag} {N N' : Addr → Prop} {H : Hp} {l : List Nat} (hs : ∀ b, N b → N' b) (hN : l = [] → ∀ b, N' b → N b) : ∀ {os : List D} {as : List Addr}, Paired (Ow K N H) os as → (l.isEmpty || os.all D.flatO) = true → Paired (Ow K N' H) os as
  | [], _, h, _ => by cases h; exact .nil
  | d :: os, _, h, f => by
    cases h with
    | cons a b =>
      refine .cons (lend_backO a hs hN ?_) (lend_backP hs hN b ?_) <;> (cases l <;> simp_all)
theorem upO_own : ∀ {is : List Nat} {os : List D} {ρ ρ2 : Env}, upO ρ is os = some ρ2 → ∀ {i : Nat} {s : Slot}, ρ2[i]? = some s → isOwn s = true → ∃ s', ρ[i]? = some s' ∧ isOwn s' = true := by
  have one : ∀ {ρ : Env} {j : Nat} {d : D} {i : Nat} {s : Slot}, (ownSet ρ j d)[i]? = some s → isOwn s = true → ∃ s', ρ[i]? = some s' ∧ isOwn s' = true := by
    intro ρ j d i s h o
    unfold ownSet at h
    cases e : ρ[j]? with
    | none => rw [e] at h; exact ⟨s, h, o⟩
    | some t =>
      rw [e] at h
      cases t with
      | no => exact ⟨s, h, o⟩
      | v _ => exact ⟨s, h, o⟩
      | o d2 =>
        by_cases z : j = i
        · subst z; exact ⟨_, e, rfl⟩
        · rw [List.getElem?_set_ne z] at h; exact ⟨s, h, o⟩
      | p d2 =>
        by_cases z : j = i
        · subst z; exact ⟨_, e, rfl⟩
        · rw [List.getElem?_set_ne z] at h; exact ⟨s, h, o⟩
  intro is
  induction is with
  | nil =>
    intro os ρ ρ2 hu i s h o
    cases os with
    | nil => cases hu; exact ⟨s, h, o⟩
    | cons _ _ => cases hu
  | cons j is ih =>
    intro os ρ ρ2 hu i s h o
    cases os with
    | nil => cases is <;> cases hu
    | cons d os =>
      cases is with
      | nil =>
        cases os with
        | nil =>
          have hu : ownSet ρ j d = ρ2 := by injection hu
          subst hu
          exact one h o
        | cons _ _ => cases hu
      | cons k is =>
        cases os with
        | nil => cases hu
        | cons e os =>
          obtain ⟨s', h', o'⟩ := ih (show upO (ownSet ρ j d) (k :: is) (e :: os) = some ρ2 from hu) h o
          exact one h' o'
theorem call_sat {fr : Bool} (s : Sat X W (fun _ σ => RelA X.K σ) t ma) :
    Sat X W (fun B σ => if fr then RelF X.K B σ else RelE X.K) (tCallS (spF X.K X.mg fl F) (WE W) t) (eCall fl fr F ma) := by
  intro B M H ρ σ Q rp k
  refine s B M H ρ σ _ rp (Post.seq k fun rs ρ1 M1 H1 vs x1 r1 q1 k1 => ?_)
  unfold callG at k1
  cases eg : getAll ρ1 rs with
  | none => simp only [eg] at k1; exact k1.elim
  | some ds =>
    cases ei : ownIdx fl rs with
    | none => simp only [eg, ei] at k1; exact k1.elim
    | some is =>
      simp only [eg, ei] at k1
      by_cases hc : (ndB is && is.all fun i => !(lent fl rs).contains i) = true
      · rw [if_pos hc] at k1
        rw [Bool.and_eq_true] at hc
        obtain ⟨hc1, hc2⟩ := hc
        have hnd : is.Nodup := ndB_nodup hc1
        have hc2 : ∀ i ∈ is, i ∉ lent fl rs := fun i hm z => by
          have q := List.all_eq_true.mp hc2 i hm
          simp at q
          exact q z
        obtain ⟨as, ha, hi⟩ := args_of (fl := fl) r1 (lent fl rs) (lent_own eg) q1 eg ei (fun _ h => h) hc2
        have nd : FApart H1 as := hi.apart r1 hnd
        refine ⟨Lend (lent fl rs) M1 H1 σ, ds, as, fun b h => r1.trk b h.1, nd, ha, ?_⟩
        have hN0 : lent fl rs = [] → ∀ b, M1 b → Lend (lent fl rs) M1 H1 σ b := fun e b h => by rw [e]; exact Lend.nil h
        cases eF : F ds with
        | ok r os =>
          simp only [eF] at k1 ⊢
          by_cases hl : fr = false ∧ lentOk (lent fl rs) r os = true
          · rw [if_pos hl] at k1
            obtain ⟨hfr, hl⟩ := hl
            subst hfr
            unfold lentOk at hl
            intro H2 v hk hs hp hr
            cases eu : upO ρ1 is os with
            | none => simp only [eu] at k1; exact k1.elim
            | some ρ2 =>
              simp only [eu] at k1
              have hp' := lend_backP (N' := M1) (l := lent fl rs) (fun _ h => h.1) hN0 hp (by cases h : (lent fl rs).isEmpty <;> simp_all)
              obtain ⟨r2, x2⟩ := r1.called hi hnd hk hs (fun _ h => h) (fun _ h => .inl h) (fun b h => hs.2 b (r1.trk b h)) hp' eu
              exact k1 M1 H2 v x2 r2 (lend_back (l := lent fl rs) hr hN0 (by cases h : (lent fl rs).isEmpty <;> simp_all))
          · rw [if_neg hl] at k1; exact k1.elim
        | okF r os =>
          simp only [eF] at k1 ⊢
          by_cases hl : fr = true ∧ lentOkF (lent fl rs) r os = true
          · rw [if_pos hl] at k1
            obtain ⟨hfr, hl⟩ := hl
            subst hfr
            unfold lentOkF at hl
            intro H2 a hk hs hn hp hr
            cases eu : upO ρ1 is os with
            | none => simp only [eu] at k1; exact k1.elim
            | some ρ2 =>
              simp only [eu] at k1
              have hs1 : ∀ b, (Lend (lent fl rs) M1 H1 σ b ∨ Foot H2 a b) → (M1 b ∨ Foot H2 a b) := fun b h => h.imp (fun z => z.1) id
              have hN1 : lent fl rs = [] → ∀ b, (M1 b ∨ Foot H2 a b) → (Lend (lent fl rs) M1 H1 σ b ∨ Foot H2 a b) := fun e b h => h.imp (hN0 e b) id
              have hp' := lend_backP (N' := fun b => M1 b ∨ Foot H2 a b) (l := lent fl rs) hs1 hN1 hp (by cases h : (lent fl rs).isEmpty <;> simp_all)
              have w := lend_backO (N' := fun b => M1 b ∨ Foot H2 a b) (l := lent fl rs) hr hs1 hN1 (by cases h : (lent fl rs).isEmpty <;> simp_all)
              obtain ⟨r2, x2⟩ := r1.called hi hnd hk hs (fun _ h => .inl h) (fun b h => h.imp id (hn b)) (fun b h => h.elim (fun h => hs.2 b (r1.trk b h)) fun e => by
                obtain ⟨_, o, q, _⟩ := w.foot e
                rw [q]; intro z; cases z) hp' eu
              refine k1 _ H2 _ x2 r2 ⟨a, rfl, w, fun c f => ?_, fun c f i s b hi2 ho e g => ?_, fun c f p hm e => ?_⟩
              · cases q : B.H c with
                | none => rfl
                | some o => exact absurd (hn c f) (r1.old c (by rw [q]; intro z; cases z))
              · obtain ⟨s', h1, h2⟩ := upO_own eu hi2 ho
                have g1 := r1.calledF hi hk hs h1 h2 e g
                obtain ⟨d0, w0, _⟩ := r1.ownAt h1 h2 e
                obtain ⟨_, o, q, _⟩ := w0.foot g1
                rw [hn c f] at q
                cases q
              · have q := (r1.pr p hm).1
                rw [e, hn c f] at q
                cases q
          · rw [if_neg hl] at k1; exact k1.elim
        | exc xx os =>
          simp only [eF] at k1 ⊢
          by_cases hl : lentOk (lent fl rs) (.tup xx.fs) os = true
          · rw [if_pos hl] at k1
            unfold lentOk at hl
            intro H2 c dx hk hs hp hr
            cases eu : upO ρ1 is os with
            | none => simp only [eu] at k1; exact k1.elim
            | some ρ2 =>
              simp only [eu] at k1
              have hp' := lend_backP (N' := M1) (l := lent fl rs) (fun _ h => h.1) hN0 hp (by cases h : (lent fl rs).isEmpty <;> simp_all)
              obtain ⟨r2, x2⟩ := r1.called hi hnd hk hs (fun _ h => h) (fun _ h => .inl h) (fun b h => hs.2 b (r1.trk b h)) hp' eu
              refine k1 M1 H2 c dx x2 r2 (hr.back (by cases h : (lent fl rs).isEmpty <;> simp_all [D.flat]) fun a fs ea m => ⟨m, fun j hj a' e f => ?_⟩)
              obtain ⟨s', h1, h2⟩ := lent_own eg j hj
              obtain ⟨d0, w0, _⟩ := r1.ownAt h1 h2 e
              -- a lent object is as it was: no exception's dict
              obtain ⟨_, o, q, im⟩ := w0.foot f
              have keepA : H2 a = some o := hk a o q fun a2 ha2 f2 => by
                obtain ⟨i, t, mi, g1, g2, g3⟩ := hi.at ha2
                exact r1.apart i j t s' a2 a' a (fun z => hc2 i mi (z ▸ hj)) g1 h1 g2 h2 g3 e f2 f
              rw [ea] at keepA
              cases keepA
              exact w0.noXd f q
          · rw [if_neg hl] at k1; exact k1.elim
        | bad => simp only [eF] at k1; exact k1.elim
      · rw [if_neg hc] at k1; exact k1.elim
theorem de_call (hF : FnOk X.prog X.w X.K X.mg X.base (L2.CX X.prog X.w) k f fd ps (spF X.K X.mg fl F)) (hr : Room k X.A) (hg : Gl X x) (hm : X.mg x = some (.ref f)) (hk : PySem.W.keepIn X.K (.ref f) = true) (hb : Binds X.K fd ps []) (tk : Takes X W) (ha : DA X W (e :: es) ma)
    (hdb : (x == ("__debug__" : Str)) = false := by decide) (he : starEach (e :: es) X.env = (false, eval e X.env) :: starEach es X.env := by rfl) (hpl : (backTo pos (starEach es X.env)).any (·.1) = false := by rfl) : DE X W (.Call (.Name x p) (e :: es) [] pos) (eCall fl false F ma) := by
  obtain ⟨t, pt, s⟩ := ha
  exact ⟨_, pe_callS hF hr hg hm hk hb (fun σ => passAt tk σ) pt hdb he hpl, call_sat (fr := false) s⟩
theorem df_call (hF : FnOk X.prog X.w X.K X.mg X.base (L2.CX X.prog X.w) k f fd ps (spF X.K X.mg fl F)) (hr : Room k X.A) (hg : Gl X x) (hm : X.mg x = some (.ref f)) (hk : PySem.W.keepIn X.K (.ref f) = true) (hb : Binds X.K fd ps []) (tk : Takes X W) (ha : DA X W (e :: es) ma)
    (hdb : (x == ("__debug__" : Str)) = false := by decide) (he : starEach (e :: es) X.env = (false, eval e X.env) :: starEach es X.env := by rfl) (hpl : (backTo pos (starEach es X.env)).any (·.1) = false := by rfl) : DF X W (.Call (.Name x p) (e :: es) [] pos) (eCall fl true F ma) := by
  obtain ⟨t, pt, s⟩ := ha
  exact ⟨_, pe_callS hF hr hg hm hk hb (fun σ => passAt tk σ) pt hdb he hpl, call_sat (fr := true) s⟩
end
end NV

set_option Elab.async false
set_option linter.all false
set_option maxRecDepth 100000
set_option maxHeartbeats 4000000
/-! Core9: value tests, built-in functions. -/
namespace NV
open PySem PySem.Spec PyProof.Rows L2

section
variable {X : Cx} {W : WX} {a b : Expr} {rest : List Expr} {pos : Pos} {ea eb : EM}
/-! ### and, or, not as values -/
theorem truV_rp {M : Addr → Prop} {H : Hp} {d : D} {v : V} {k : Bool} (h : Rp X.K M H d v) (e : truthy d = some k) : TruV X.K v H k := truV_of h.rq e
theorem de_and (ha : DE X W a ea) (hb : DE X W (.BoolOp .And (b :: rest) pos) eb) : DE X W (.BoolOp .And (a :: b :: rest) pos) (eAnd ea eb) := by
  obtain ⟨t, pt, s⟩ := ha
  obtain ⟨u, pu, s'⟩ := hb
  refine ⟨_, pe_andT pt pu, fun B M H ρ σ Q rp k => s B M H ρ σ _ rp (Post.seq k fun d ρ1 M1 H1 v x1 r1 q1 k1 => ?_)⟩
  cases e : truthy d with
  | none => rw [e] at k1; exact k1.elim
  | some c =>
    rw [e] at k1
    refine ⟨c, truV_rp q1 e, ?_⟩
    cases c with
    | true => exact iteT (s' B M1 H1 ρ1 σ Q r1 k1)
    | false => exact iteF (k1 M1 H1 v Ext.refl r1 q1)
theorem de_or (ha : DE X W a ea) (hb : DE X W (.BoolOp .Or (b :: rest) pos) eb) : DE X W (.BoolOp .Or (a :: b :: rest) pos) (eOr ea eb) := by
  obtain ⟨t, pt, s⟩ := ha
  obtain ⟨u, pu, s'⟩ := hb
  refine ⟨_, pe_orT pt pu, fun B M H ρ σ Q rp k => s B M H ρ σ _ rp (Post.seq k fun d ρ1 M1 H1 v x1 r1 q1 k1 => ?_)⟩
  cases e : truthy d with
  | none => rw [e] at k1; exact k1.elim
  | some c =>
    rw [e] at k1
    refine ⟨c, truV_rp q1 e, ?_⟩
    cases c with
    | true => exact iteT (k1 M1 H1 v Ext.refl r1 q1)
    | false => exact iteF (s' B M1 H1 ρ1 σ Q r1 k1)
theorem de_not (ha : DE X W a ea) : DE X W (.UnaryOp .Not a pos) (eNot ea) := by
  obtain ⟨t, pt, s⟩ := ha
  refine ⟨_, pe_notT pt, fun B M H ρ σ Q rp k => s B M H ρ σ _ rp (Post.seq k fun d ρ1 M1 H1 v x1 r1 q1 k1 => ?_)⟩
  cases e : truthy d with
  | none => rw [e] at k1; exact k1.elim
  | some c =>
    rw [e] at k1
    exact ⟨c, truV_rp q1 e, k1 M1 H1 _ Ext.refl r1 (.bl _)⟩
end

section
variable {X : Cx} {W : WX} {B : Base} {M : Addr → Prop} {H : Hp} {ρ : Env} {σ : St} {Q : V → Hp → Prop}
/-! ### order of data that are alike -/
def okOrd (d e : D) : Bool := okD 64 d && okD 64 e && PySem.W.alike (toPy d) (toPy e) && !(isNon d)
def ordO (f : PyData → PyData → Bool) (d e : D) : Option D := if okOrd d e then some (.bl (f (toPy d) (toPy e))) else none
def rOrd (K : PySem.W.Frag) (f : PyData → PyData → Bool) : R2 := fun x y H Q => ∃ d e, Dp K H x d ∧ Dp K H y e ∧ PySem.W.alike d e = true ∧ d ≠ .none ∧ d.depth ≤ 64 ∧ Q (.bl (f d e)) H
theorem op_ord {op : CmpOp} {f : PyData → PyData → Bool} (c : Cd X)
    (hop : ∀ (s : Shared) (a b : Value) (da db : PyData) (as bs : List Addr) (Q : Value → Shared → Prop), Reads s.heap a da as → Reads s.heap b db bs → PySem.W.alike da db = true → da ≠ .none → X.A.units + min da.depth db.depth < cLine → Q (.bool (f da db)) s → wpAny (model X.prog X.w) X.A (compareOp op a b) Q X.xe s) :
    OpR X (compareOp op) (rOrd X.K f) := by
  intro pins s σ H x y v u Q I rx ry h
  obtain ⟨d, e, hd, he, al, nn, dp, q⟩ := h
  obtain ⟨as, r1⟩ := Dp.reads I d x v hd rx
  obtain ⟨bs, r2⟩ := Dp.reads I e y u he ry
  have hu := c.units
  exact hop s v u d e as bs _ r1 r2 al nn (by omega) ⟨.bl _, H, I, rfl, q⟩
theorem op_ltD (c : Cd X) : OpR X (compareOp .Lt) (rOrd X.K PySem.W.dataLt) := op_ord c fun s a b da db as bs Q h1 h2 h3 h4 h5 h6 => PySem.W.lt_data h1 h2 h3 h4 h5 h6
theorem op_gtD (c : Cd X) : OpR X (compareOp .Gt) (rOrd X.K fun d e => PySem.W.dataLt e d) := op_ord c fun s a b da db as bs Q h1 h2 h3 h4 h5 h6 => PySem.W.gt_data h1 h2 h3 h4 h5 h6
theorem op_leD (c : Cd X) : OpR X (compareOp .LtE) (rOrd X.K fun d e => !PySem.W.dataLt e d) := op_ord c fun s a b da db as bs Q h1 h2 h3 h4 h5 h6 => PySem.W.le_data h1 h2 h3 h4 h5 h6
theorem op_geD (c : Cd X) : OpR X (compareOp .GtE) (rOrd X.K fun d e => !PySem.W.dataLt d e) := op_ord c fun s a b da db as bs Q h1 h2 h3 h4 h5 h6 => PySem.W.ge_data h1 h2 h3 h4 h5 h6
theorem o_ord {f : PyData → PyData → Bool} : OpE X (ordO f) (rOrd X.K f) := by
  intro B W M H ρ σ d e z x y Q rp hx hy hf h
  unfold ordO at hf
  split at hf
  · rename_i hc
    cases hf
    unfold okOrd at hc
    simp only [Bool.and_eq_true] at hc
    obtain ⟨⟨⟨h1, h2⟩, h3⟩, h4⟩ := hc
    refine ⟨_, _, (Rq.dp h1 hx).1, (Rq.dp h2 hy).1, h3, fun e => ?_, okD.depth 64 d h1, post_v h rp (.bl _)⟩
    cases d <;> simp [toPy, isNon] at e h4
  · cases hf

/-! ### len, int, max, min .. -/
def lenD : List D → Option D
  | [.str x] => some (.int x.length)
  | [.tup xs] => some (.int xs.length)
  | [.lst xs] => some (.int xs.length)
  | [.scr xs] => some (.int xs.length)
  | [.dct kvs] => some (.int kvs.length)
  | _ => none
def rLenA (K : PySem.W.Frag) : List V → Hp → VK → Prop := fun xs H Q => (∃ x n, xs = [x] ∧ LenV K x H n ∧ Q (.int n) H) ∨ ∃ a kvs, xs = [V.ref a] ∧ H a = some (.dK kvs) ∧ Q (.int kvs.length) H
theorem call_lenA {X : Cx} : CallR X (.builtin "len") (rLenA X.K) := call_len.or call_lenD
theorem f_len : CallE X lenD (rLenA X.K) := by
  intro B W M H ρ σ ds z xs Q rp hp hf h
  unfold lenD at hf
  split at hf
  · cases hf
    cases hp with | cons a b => cases b; obtain ⟨rfl, g⟩ := rq_str a; exact .inl ⟨_, _, rfl, ⟨g.1, rfl⟩, post_v h rp (.int _)⟩
  · cases hf
    cases hp with | cons a b => cases b; obtain ⟨p, vs, rfl, l, h1, h2⟩ := rq_tup a; exact .inl ⟨_, vs.length, rfl, .inr ⟨_, h1, rfl⟩, by rw [← h2.length]; exact post_v h rp (.int _)⟩
  · cases hf
    cases hp with | cons a b => cases b; obtain ⟨p, vs, rfl, l, h1, h2⟩ := rq_lst a; exact .inl ⟨_, vs.length, rfl, .inl ⟨_, SqL.of h1, rfl⟩, by rw [← h2.length]; exact post_v h rp (.int _)⟩
  · cases hf
    rename_i ys
    cases hp with | cons a b => cases b; obtain ⟨p, rfl, l, h1⟩ := rq_scr a; exact .inl ⟨_, (ys.map V.int).length, rfl, .inl ⟨_, h1.sql, rfl⟩, by rw [List.length_map]; exact post_v h rp (.int _)⟩
  · cases hf
    cases hp with | cons a b => cases b; obtain ⟨p, vs, rfl, l, h1, h2⟩ := rq_dct a; exact .inr ⟨_, vs, rfl, h1, by rw [← h2.length]; exact post_v h rp (.int _)⟩
  · cases hf
def intD : List D → Option D
  | [.int i] => some (.int i)
  | [.bl b] => some (.int (if b then 1 else 0))
  | _ => none
theorem f_int : CallE X intD (fun xs H Q => (∃ i, xs = [.int i] ∧ Q (.int i) H) ∨ ∃ k, xs = [.bl k] ∧ Q (.int (if k then 1 else 0)) H) := by
  intro B W M H ρ σ ds z xs Q rp hp hf h
  unfold intD at hf
  split at hf
  · cases hf
    cases hp with | cons a b => cases b; obtain rfl := rq_int a; exact .inl ⟨_, rfl, post_v h rp (.int _)⟩
  · cases hf
    cases hp with | cons a b => cases b; obtain rfl := rq_bl a; exact .inr ⟨_, rfl, post_v h rp (.int _)⟩
  · cases hf
def max2D : List D → Option D
  | [.int i, .int j] => some (.int (if j > i then j else i))
  | _ => none
def min2D : List D → Option D
  | [.int i, .int j] => some (.int (if j < i then j else i))
  | _ => none
theorem f_max2 : CallE X max2D (fun xs H Q => ∃ i j, xs = [.int i, .int j] ∧ Q (.int (if j > i then j else i)) H) := by
  intro B W M H ρ σ ds z xs Q rp hp hf h
  unfold max2D at hf
  split at hf
  · cases hf
    cases hp with | cons a b => cases b with | cons b c => cases c; obtain rfl := rq_int a; obtain rfl := rq_int b; exact ⟨_, _, rfl, post_v h rp (.int _)⟩
  · cases hf
theorem f_min2 : CallE X min2D (fun xs H Q => ∃ i j, xs = [.int i, .int j] ∧ Q (.int (if j < i then j else i)) H) := by
  intro B W M H ρ σ ds z xs Q rp hp hf h
  unfold min2D at hf
  split at hf
  · cases hf
    cases hp with | cons a b => cases b with | cons b c => cases c; obtain rfl := rq_int a; obtain rfl := rq_int b; exact ⟨_, _, rfl, post_v h rp (.int _)⟩
  · cases hf
def intsOf : List D → Option (List Int)
  | [] => some []
  | .int i :: ds => (intsOf ds).map fun l => i :: l
  | _ => none
theorem ints_rpl : ∀ {ds : List D} {ns : List Int} {vs : List V}, intsOf ds = some ns → RpL X.K M H ds vs → vs = ns.map V.int ∧ ds = ns.map D.int
  | [], ns, vs, e, h => by cases e; cases h; exact ⟨rfl, rfl⟩
  | d :: ds, ns, vs, e, h => by
    cases d with
    | int i =>
      cases h with
      | cons a b =>
        cases e2 : intsOf ds with
        | none => simp only [intsOf, e2] at e; cases e
        | some l =>
          simp only [intsOf, e2] at e
          cases e
          cases a
          obtain ⟨e3, e4⟩ := ints_rpl e2 b
          exact ⟨by rw [e3]; rfl, by rw [e4]; rfl⟩
    | _ => cases e
theorem rpl_ints {K : PySem.W.Frag} : ∀ ns : List Int, RpL K M H (ns.map D.int) (ns.map V.int)
  | [] => .nil
  | i :: ns => .cons (.int i) (rpl_ints ns)
def tupleD : List D → Option D
  | [.lst xs] => some (.tup xs)
  | [.tup xs] => some (.tup xs)
  | _ => none
theorem f_tuple : CallE X tupleD (fun xs H Q => ∃ p ys, xs = [.ref p] ∧ ((SqL X.K H p ys ∧ ∀ l, H l = none → Q (.ref l) (upd H l (.tup ys))) ∨ (SqT X.K H p ys ∧ Q (.ref p) H))) := by
  intro B W M H ρ σ ds z xs Q rp hp hf h
  unfold tupleD at hf
  split at hf
  · cases hf
    cases hp with | cons a b => cases b; obtain ⟨p, vs, rfl, l, h1, h2⟩ := rq_lst a; exact ⟨_, vs, rfl, .inl ⟨SqL.of h1, fun q hq => post_t h rp h2 l hq⟩⟩
  · cases hf
    cases hp with | cons a b => cases b; obtain ⟨p, vs, rfl, l, h1, h2⟩ := rq_tup a; exact ⟨_, vs, rfl, .inr ⟨h1, post_v h rp (.tup l h1 h2)⟩⟩
  · cases hf
def blsOf : List D → Option (List Bool)
  | [] => some []
  | .bl i :: ds => (blsOf ds).map fun l => i :: l
  | _ => none
theorem bls_rpl : ∀ {ds : List D} {ns : List Bool} {vs : List V}, blsOf ds = some ns → RpL X.K M H ds vs → vs = ns.map V.bl
  | [], ns, vs, e, h => by cases e; cases h; rfl
  | d :: ds, ns, vs, e, h => by
    cases d with
    | bl i =>
      cases h with
      | cons a b =>
        cases e2 : blsOf ds with
        | none => simp only [blsOf, e2] at e; cases e
        | some l =>
          simp only [blsOf, e2] at e
          cases e
          cases a
          rw [bls_rpl e2 b]; rfl
    | _ => cases e
def listB (f : List Bool → D) : List D → Option D
  | [.lst ds] => (blsOf ds).map f
  | _ => none
def allD2 : List D → Option D := listB fun l => .bl (l.all id)
theorem f_all : CallE X allD2 (rAll X.K) := by
  intro B W M H ρ σ ds z xs Q rp hp hf h
  unfold allD2 listB at hf
  split at hf
  · cases hp with
    | cons a b =>
      cases b
      obtain ⟨p, vs, rfl, l, h1, h2⟩ := rq_lst a
      rename_i ds'
      cases e : blsOf ds' with
      | none => rw [e] at hf; cases hf
      | some ns =>
        rw [e] at hf
        cases hf
        obtain rfl := bls_rpl e h2
        exact ⟨_, ns, rfl, SqL.of h1, post_v h rp (.bl _)⟩
  · cases hf
end
end NV

set_option Elab.async false
set_option linter.all false
set_option maxRecDepth 100000
set_option maxHeartbeats 4000000
/-! Core10: isinstance, tuple(range(..)), list(range(..)). -/
namespace NV
open PySem PySem.Spec PyProof.Rows L2

/-- the name of a value's type -/
def typ : D → String
  | .non => "NoneType"
  | .bl _ => "bool"
  | .int _ => "int"
  | .str _ => "str"
  | .tup _ => "tuple"
  | .lst _ => "list"
  | .dct _ => "dict"
  | .scr _ => "list"
  | .exn _ _ => "object"
  | .dt _ => "object"
  | .obj _ _ => "object"
def isT (T : TyN) (d : D) : Option D := match d, T with
  | .non, _ => some (.bl false)
  | .bl _, .bool => some (.bl true)
  | .bl _, .int => some (.bl true)
  | .bl _, _ => some (.bl false)
  | .int _, .int => some (.bl true)
  | .int _, _ => some (.bl false)
  | .str _, .str => some (.bl true)
  | .str _, _ => some (.bl false)
  | .tup _, .tuple => some (.bl true)
  | .tup _, _ => some (.bl false)
  | .lst _, .list => some (.bl true)
  | .lst _, _ => some (.bl false)
  | .dct _, .dict => some (.bl true)
  | .dct _, _ => some (.bl false)
  | .scr _, .list => some (.bl true)
  | .scr _, _ => some (.bl false)
  | .exn _ _, _ => none
  | .dt _, _ => none
  | .obj _ _, _ => none
theorem kit_typ {T : TyN} {d z : D} (h : isT T d = some z) : ∃ b, z = .bl b ∧ kitB (typ d) T.nm = some b := by
  cases d <;> cases T <;> cases h <;> exact ⟨_, rfl, by dsimp only [typ, TyN.nm]; decide +kernel⟩
theorem tyX_of {K : PySem.W.Frag} {M : Addr → Prop} {H : Hp} {d : D} {v : V} (h : Rq K M H d v) (hx : typ d ≠ "object") : TyX K H v (.type (typ d)) := by
  cases d with
  | non => cases h; exact .base .non
  | bl b => cases h; exact .base (.bl _)
  | int i => cases h; exact .base (.int _)
  | str x => cases h; exact .base (.str _)
  | tup ds =>
    obtain ⟨a, vs, rfl, l, h1, h2⟩ := rq_tup h
    rcases h1 with (h1 | ⟨o, h1⟩) | ⟨o, its, n, h1, h2, _⟩
    · exact .base (.tup h1)
    · exact .fTuple h1
    · exact .kTuple h1 h2
  | lst ds =>
    obtain ⟨a, vs, rfl, l, h1, h2⟩ := rq_lst h
    exact .base (.lst h1)
  | dct ds =>
    obtain ⟨a, vs, rfl, l, h1, h2⟩ := rq_dct h
    exact .base (.dK h1)
  | scr xs =>
    obtain ⟨a, rfl, l, h1⟩ := rq_scr h
    rcases h1 with ⟨o, h1⟩ | ⟨o, its, n, h1, h2, _⟩
    · exact .base (.frz h1)
    · exact .kList h1 h2
  | exn _ _ => exact absurd rfl hx
  | dt _ => exact absurd rfl hx
  | obj _ _ => exact absurd rfl hx
section
variable {X : Cx} {W : WX} {e : Expr} {p p2 pos : Pos}
def eIsT (T : TyN) (m : RM) : EM := fun ρ => (m ρ).bind fun x ρ1 => (ofO (x.get ρ1) ρ1).bind fun d _ => ofO (isT T d) ρ1
theorem de_isT (T : TyN) {y : Str} {m : RM} (he : DR X W e m) (hg : Gl X "isinstance") (hm : X.mg "isinstance" = none) (hg2 : Gl X y) (hm2 : X.mg y = none) (hv : bootBuiltins y = some (.type T.nm)) (hn : y ≠ "__name__" := by decide) (hd : (y == ("__debug__" : Str)) = false := by decide)
    (h1 : starEach [e, .Name y p2] X.env = (false, eval e X.env) :: starEach [.Name y p2] X.env := by rfl) (h2 : starEach [.Name y p2] X.env = (false, eval (.Name y p2) X.env) :: starEach [] X.env := by rfl) (hpl : (backTo pos (starEach [.Name y p2] X.env)).any (·.1) = false := by rfl) :
    DE X W (.Call (.Name "isinstance" p) [e, .Name y p2] [] pos) (eIsT T m) := by
  obtain ⟨t, pt, s⟩ := he
  refine ⟨_, pe_callB call_isi hg hm PyProof.Rows.boot_isinstance (pa_cons pt (pa_cons (pe_bltn (v := .ty T.nm) hg2 hm2 hv rfl hn hd) pa_nil h2) h1) (by decide) (by decide) h1 hpl, fun B M H ρ σ Q rp k => s B M H ρ σ _ rp (Post.seq k fun x ρ1 M1 H1 v x1 r1 q1 k1 => ?_)⟩
  cases ex : x.get ρ1 with
  | none => rw [ex] at k1; exact k1.elim
  | some d =>
    rw [ex] at k1
    cases ez : isT T d with
    | none => simp only [ofO, Res.bind, ez] at k1; exact k1.elim
    | some z =>
      simp only [ofO, Res.bind, ez] at k1
      obtain ⟨b, rfl, hb⟩ := kit_typ ez
      refine ⟨v, .ty T.nm, .type (typ d), .type T.nm, b, rfl, .ty _, tyX_of (q1.rq Ext.refl r1 ex) (fun z => ?_), kit_ty hb, k1 M1 H1 _ Ext.refl r1 (.bl _)⟩
      cases d <;> first | (exact absurd z (by dsimp only [typ]; decide +kernel)) | cases ez

/-! ### range(..) as an argument -/
def gRg1 (m : EM) : Env → Res (Int × Int) := fun ρ => (m ρ).bind fun d ρ1 => match d with
  | .int i => .ok (0, i) ρ1
  | _ => .bad
instance {a b : Int} : Decidable (RgOk a b) := by unfold RgOk; infer_instance
end
end NV

set_option Elab.async false
set_option linter.all false
set_option maxRecDepth 100000
set_option maxHeartbeats 4000000
/-! Core11: the forms that a printed derivation uses. -/
namespace NV
open PySem PySem.Spec PyProof.Rows L2

/-! ### order, wide -/
def lt2 (d e : D) : Option D := match d, e with
  | .int i, .int j => some (.bl (decide (i < j)))
  | d, e => ordO PySem.W.dataLt d e
def gt2 (d e : D) : Option D := match d, e with
  | .int i, .int j => some (.bl (decide (j < i)))
  | d, e => ordO (fun d e => PySem.W.dataLt e d) d e
def le2 (d e : D) : Option D := match d, e with
  | .int i, .int j => some (.bl (decide (i ≤ j)))
  | d, e => ordO (fun d e => !PySem.W.dataLt e d) d e
def ge2 (d e : D) : Option D := match d, e with
  | .int i, .int j => some (.bl (decide (j ≤ i)))
  | d, e => ordO (fun d e => !PySem.W.dataLt d e) d e
section
variable {X : Cx} {W : WX}
def rLt2 (K : PySem.W.Frag) : R2 := fun x y H Q => rI0 (fun i j => .bl (decide (i < j))) x y H Q ∨ rOrd K PySem.W.dataLt x y H Q
def rGt2 (K : PySem.W.Frag) : R2 := fun x y H Q => rI0 (fun i j => .bl (decide (j < i))) x y H Q ∨ rOrd K (fun d e => PySem.W.dataLt e d) x y H Q
def rLe2 (K : PySem.W.Frag) : R2 := fun x y H Q => rI0 (fun i j => .bl (decide (i ≤ j))) x y H Q ∨ rOrd K (fun d e => !PySem.W.dataLt e d) x y H Q
def rGe2 (K : PySem.W.Frag) : R2 := fun x y H Q => rI0 (fun i j => .bl (decide (j ≤ i))) x y H Q ∨ rOrd K (fun d e => !PySem.W.dataLt d e) x y H Q
theorem op_lt2 (c : Cd X) : OpR X (compareOp .Lt) (rLt2 X.K) := op_lt.or (op_ltD c)
theorem op_gt2 (c : Cd X) : OpR X (compareOp .Gt) (rGt2 X.K) := op_gt.or (op_gtD c)
theorem op_le2 (c : Cd X) : OpR X (compareOp .LtE) (rLe2 X.K) := op_le.or (op_leD c)
theorem op_ge2 (c : Cd X) : OpR X (compareOp .GtE) (rGe2 X.K) := op_ge.or (op_geD c)
theorem o_lt2 : OpE X lt2 (rLt2 X.K) := by
  intro B W M H ρ σ d e z x y Q rp hx hy hf h
  unfold lt2 at hf
  split at hf
  · exact .inl (o_lt B W M H ρ σ _ _ z x y Q rp hx hy hf h)
  · exact .inr (o_ord B W M H ρ σ _ _ z x y Q rp hx hy hf h)
theorem o_gt2 : OpE X gt2 (rGt2 X.K) := by
  intro B W M H ρ σ d e z x y Q rp hx hy hf h
  unfold gt2 at hf
  split at hf
  · exact .inl (o_gt B W M H ρ σ _ _ z x y Q rp hx hy hf h)
  · exact .inr (o_ord B W M H ρ σ _ _ z x y Q rp hx hy hf h)
theorem o_le2 : OpE X le2 (rLe2 X.K) := by
  intro B W M H ρ σ d e z x y Q rp hx hy hf h
  unfold le2 at hf
  split at hf
  · exact .inl (o_le B W M H ρ σ _ _ z x y Q rp hx hy hf h)
  · exact .inr (o_ord B W M H ρ σ _ _ z x y Q rp hx hy hf h)
theorem o_ge2 : OpE X ge2 (rGe2 X.K) := by
  intro B W M H ρ σ d e z x y Q rp hx hy hf h
  unfold ge2 at hf
  split at hf
  · exact .inl (o_ge B W M H ρ σ _ _ z x y Q rp hx hy hf h)
  · exact .inr (o_ord B W M H ρ σ _ _ z x y Q rp hx hy hf h)

/-! ### a ghost step that may find nothing to do -/
def sFz (i : Nat) (m : SM) : SM := fun ρ => match ρ[i]? with
  | some (.o d) => m (ρ.set i (.v d))
  | _ => m ρ
theorem ds_fz {st : Stmt} (i : Nat) {m : SM} (h : DS X W st m) : DS X W st (sFz i m) := by
  obtain ⟨t, p, s⟩ := h
  refine ⟨t, p, fun B M H ρ σ E r h => ?_⟩
  unfold sFz at h
  split at h
  · rename_i d hd
    obtain ⟨M', sub, r'⟩ := r.frz hd
    exact s B M' H _ σ E r' (PostS.shift (Ext.sub sub) h)
  · exact s B M H _ σ E r h

/-! ### x = [.. for ..] -/
section
variable {elt tg iter : Expr} {ifs : List Expr} {scope : Scope} {own : List (Str × Nat)} {pos spos py : Pos} {mi : Env → Res (List D)} {g : D → Env → Option Env} {mt : TM} {me : EM} {vs : List Nat} {i : Nat} {y : Str}
theorem ds_setLcO (c : Cd X) (hN : X.N.Nodup) (hy : X.N[i]? = some y) (hyl : X.env.scope.names.lookup y = some .local) (hsw : swapsWith (.ListComp elt [⟨tg, iter, ifs, 0⟩] scope pos) (some (.Name y py)) spos.line X.env = pure true) (hi : DI X W tg iter mi) (ok : BlkOk X.N X.env.scope scope own)
    (hg : ∀ (s : Shared) (H : Hp) (C : Addr) (cl : List (Str × Addr)) (fp : List Addr), DG (X.blk s H scope (compEnvC scope cl C X.env) fp) tg g vs)
    (ht : ∀ (s : Shared) (H : Hp) (C : Addr) (cl : List (Str × Addr)) (fp : List Addr), DTs (X.blk s H scope (compEnvC scope cl C X.env) fp) (fun _ _ _ _ => False) ifs mt)
    (he : ∀ (s : Shared) (H : Hp) (C : Addr) (cl : List (Str × Addr)) (fp : List Addr), DE (X.blk s H scope (compEnvC scope cl C X.env) fp) (fun _ _ _ _ => False) elt me) (ev : own.map (·.2) = vs := by rfl) (hs : ∀ x, foldedSetIterable iter X.env x = pure x := by intro _; rfl) :
    DS X W (.Assign [.Name y py] (.ListComp elt [⟨tg, iter, ifs, 0⟩] scope pos) spos) (sSetO i (eComp mi g mt me vs)) := by
  obtain ⟨wi, pi, si⟩ := hi
  subst ev
  have s := comp_sat (X := X) (W := W) (wi := wi) (mi := mi) (g := g) (mt := mt) (me := me) (vs := own.map (·.2)) si
  refine ⟨_, ps_setLc (tt := ttCan X (fun _ _ _ _ => False) mt) c.calm hN hy hyl hsw pi ok (fun s H C cl fp => can_g (hg s H C cl fp)) (fun s H C cl fp => ht s H C cl fp) (fun s H C cl fp => can_e (he s H C cl fp)) hs, fun B M H ρ σ E r h => s B M H ρ σ _ r (PostS.out (R := RelF X.K B σ) h fun d ρ1 M1 H1 v x1 r1 q1 k1 => ?_)⟩
  obtain ⟨a, rfl, w, hb, an, np⟩ := q1
  exact k1 M1 H1 _ Ext.refl (r1.setO i w hb an np)
theorem ds_setLc (c : Cd X) (hN : X.N.Nodup) (hy : X.N[i]? = some y) (hyl : X.env.scope.names.lookup y = some .local) (hsw : swapsWith (.ListComp elt [⟨tg, iter, ifs, 0⟩] scope pos) (some (.Name y py)) spos.line X.env = pure true) (hi : DI X W tg iter mi) (ok : BlkOk X.N X.env.scope scope own)
    (hg : ∀ (s : Shared) (H : Hp) (C : Addr) (cl : List (Str × Addr)) (fp : List Addr), DG (X.blk s H scope (compEnvC scope cl C X.env) fp) tg g vs)
    (ht : ∀ (s : Shared) (H : Hp) (C : Addr) (cl : List (Str × Addr)) (fp : List Addr), DTs (X.blk s H scope (compEnvC scope cl C X.env) fp) (fun _ _ _ _ => False) ifs mt)
    (he : ∀ (s : Shared) (H : Hp) (C : Addr) (cl : List (Str × Addr)) (fp : List Addr), DE (X.blk s H scope (compEnvC scope cl C X.env) fp) (fun _ _ _ _ => False) elt me) (ev : own.map (·.2) = vs := by rfl) (hs : ∀ x, foldedSetIterable iter X.env x = pure x := by intro _; rfl) :
    DS X W (.Assign [.Name y py] (.ListComp elt [⟨tg, iter, ifs, 0⟩] scope pos) spos) (sSet i (eComp mi g mt me vs)) := by
  obtain ⟨wi, pi, si⟩ := hi
  subst ev
  have s := comp_sat (X := X) (W := W) (wi := wi) (mi := mi) (g := g) (mt := mt) (me := me) (vs := own.map (·.2)) si
  refine ⟨_, ps_setLc (tt := ttCan X (fun _ _ _ _ => False) mt) c.calm hN hy hyl hsw pi ok (fun s H C cl fp => can_g (hg s H C cl fp)) (fun s H C cl fp => ht s H C cl fp) (fun s H C cl fp => can_e (he s H C cl fp)) hs, fun B M H ρ σ E r h => s B M H ρ σ _ r (PostS.out (R := RelF X.K B σ) h fun d ρ1 M1 H1 v x1 r1 q1 k1 => ?_)⟩
  obtain ⟨a, rfl, w, hb, an, np⟩ := q1
  exact k1 _ H1 _ (Ext.sub fun _ z => z.1) ((r1.drop hb an np).setV i w.rp)
end
end

/-! ### defs that are at hand -/
def Has (P : Program) (w : World) (K : PySem.W.Frag) (mg : Str → Option Value) (base : Heap) (k : Nat) (x : Str) (fl : List Bool) (F : List D → FRes) : Prop :=
  ∃ (f : Addr) (fd : FuncData) (ps : List Str), FnOk P w K mg base (L2.CX P w) k f fd ps (spF K mg fl F) ∧ mg x = some (.ref f) ∧ PySem.W.keepIn K (.ref f) = true ∧ Binds K fd ps []
section
variable {X : Cx} {W : WX} {k n : Nat} {x : Str} {p pos : Pos} {e : Expr} {es : List Expr} {fl : List Bool} {F : List D → FRes} {ma : AM}
theorem de_callH (h : Has X.prog X.w X.K X.mg X.base k x fl F) (hr : Room n X.A) (hg : Gl X x) (tk : Takes X W) (ha : DA X W (e :: es) ma) (hk : k ≤ n := by decide)
    (hdb : (x == ("__debug__" : Str)) = false := by decide) (he : starEach (e :: es) X.env = (false, eval e X.env) :: starEach es X.env := by rfl) (hpl : (backTo pos (starEach es X.env)).any (·.1) = false := by rfl) : DE X W (.Call (.Name x p) (e :: es) [] pos) (eCall fl false F ma) := by
  obtain ⟨f, fd, ps, h1, h2, h3, h4⟩ := h
  exact de_call (h1.mono hk) hr hg h2 h3 h4 tk ha hdb he hpl
theorem df_callH (h : Has X.prog X.w X.K X.mg X.base k x fl F) (hr : Room n X.A) (hg : Gl X x) (tk : Takes X W) (ha : DA X W (e :: es) ma) (hk : k ≤ n := by decide)
    (hdb : (x == ("__debug__" : Str)) = false := by decide) (he : starEach (e :: es) X.env = (false, eval e X.env) :: starEach es X.env := by rfl) (hpl : (backTo pos (starEach es X.env)).any (·.1) = false := by rfl) : DF X W (.Call (.Name x p) (e :: es) [] pos) (eCall fl true F ma) := by
  obtain ⟨f, fd, ps, h1, h2, h3, h4⟩ := h
  exact df_call (h1.mono hk) hr hg h2 h3 h4 tk ha hdb he hpl
end
abbrev FnP (K : PySem.W.Frag) (x : Str) (st : Stmt) (f : Addr) (fd : FuncData) : Prop := FunD K x x (defArgs st) (defBody st) (defScope st) [] [] f fd
theorem cd_of {X : Cx} {k : Nat} (hr : Room k X.A) (hc : X.calm = true := by rfl) : Cd X := ⟨hc, hr.units⟩
theorem fn_defD {P : Program} {w : World} {K : PySem.W.Frag} {mg : Str → Option Value} {base : Heap} {x : Str} {st : Stmt} {f : Addr} {fd : FuncData} {N ps : List Str} {k : Nat} {fl : List Bool} {m : SM} (F : FnP K x st f fd) (S : FnScope N ps (defScope st)) (hf : fl.length = ps.length)
    (der : ∀ (cdv : Value) (A : Around) (outer : List PySem.Env) (s : Shared) (H : Hp) (E : XK), Room k (A.deeper (envOfC x (defScope st) s.heap.objs.size f cdv)) →
      DSs (cxOf (L2.CX P w) P w K mg base N x (defScope st) f cdv A outer s H E) (fun c dx _ H' => E c dx H') (defBody st) m) : FnOk P w K mg base (L2.CX P w) (k + 1) f fd ps (spF K mg fl (runF fl N.length m)) := by
  obtain ⟨oc, od, dV, kV, doc, pm, an, cdv, ct, osl, e, lk, hcd, hD, _⟩ := F.ex
  rcases hD with ⟨_, rfl⟩ | ⟨e2, _⟩
  · exact fn_def (F := ⟨⟨oc, od, kV, doc, pm, an, cdv, ct, osl, e, lk, hcd⟩, F.kp⟩) S hf der
  · exact absurd rfl e2
theorem has_of {P : Program} {w : World} {K : PySem.W.Frag} {mg : Str → Option Value} {base : Heap} {x : Str} {st : Stmt} {f : Addr} {fd : FuncData} {ps : List Str} {k : Nat} {fl : List Bool} {F : List D → FRes} (D : FnP K x st f fd) (h : FnOk P w K mg base (L2.CX P w) k f fd ps (spF K mg fl F)) (g : mg x = some (.ref f))
    (hb : ∀ (kV doc pm : Value) (an : Option Addr) (cdv ct : Value) (us : List Value), us.length = ps.length → bindArgs (PySem.W.fnOf x x (defArgs st) (defBody st) (defScope st) .none kV doc pm an cdv ct) ⟨us, []⟩ = pure (ps.zip us)) : Has P w K mg base k x fl F :=
  ⟨f, fd, ps, h, g, D.kp, D.bindsN hb⟩
end NV

set_option Elab.async false
set_option linter.all false
set_option maxRecDepth 100000
set_option maxHeartbeats 4000000
/-! CoreS: set(..) of texts. -/
namespace NVS
open PySem PySem.Spec PyProof.Rows
def stepS (acc : List Str) (x : Str) : List Str := if x ∈ acc then acc else acc ++ [x]
/-- without the repeated ones -/
def dd (xs : List Str) : List Str := xs.foldl stepS []
section
variable {pr : Program} {wo : World} {A : Around} {R : Result → Shared → Prop} {I : Addr} {fp wr : List Addr} {G : Array GenState → Array GenState → Prop} {n : Nat} {P : Nat → Value → Prop} {Sx : Nat → Shared → Prop}
end
section
variable {pr : Program} {wo : World} {A : Around} {X0 : Value → Shared → Prop} {st : Shared}
set_option maxHeartbeats 8000000

end
end NVS

set_option Elab.async false
set_option linter.all false
set_option maxRecDepth 100000
set_option maxHeartbeats 4000000
/-! Core12: a law's end. -/
namespace NV
open PySem PySem.Spec PyProof.Rows L2
theorem sqS_of {K : PySem.W.Frag} {H : Hp} {a : Addr} {ns : List Int} (hO : L2.Only H) (h : SqL K H a (ns.map V.int)) : SqS K H a ns := by
  rcases h with (h | ⟨o, h⟩) | h
  · rcases hO a with z | ⟨o, xs, z⟩
    · rw [z] at h; cases h
    · rw [z] at h; cases h
  · exact .inl ⟨o, h⟩
  · exact .inr h
theorem law_end {K : PySem.W.Frag} {mg : Str → Option Value} {H : Hp} {a : Addr} {ns : List Int} {F : List D → FRes} (hO : L2.Only H) (hS : SqL K H a (ns.map V.int)) (hl : ns.length ≤ sizeLine) (hF : F [.scr ns] = .ok (.bl true) []) :
    spF K mg [false] F [.ref a] H (fun v _ => v = .bl true) fun _ _ _ => False := by
  refine ⟨fun _ => False, [.scr ns], [], fun b h => h.elim, List.Pairwise.nil, ⟨.scr hl (sqS_of hO hS), trivial⟩, ?_⟩
  rw [hF]
  intro H' v _ _ _ r
  cases r
  rfl
theorem walk_own {l : PySem.W.OpenLaw} {n k : Nat} {q : Program} {loose : List Str} {XP : (Str → Option Value) → Heap → Prop} {YP : World → Heap → Prop} {d : DefRec} {x : Str}
    (hn : l.most = some n) (hn2 : n ≤ sizeLine) (hdf : d.params.defaults = []) (hr : Room k callerA)
    (F : ∀ (w : World) (mg : Str → Option Value) (fa : Addr) (h : Heap), YP w h → h.Ns mainGlobals mg → mg d.name = some (.ref fa) →
      ∃ (K : PySem.W.Frag) (fd : FuncData) (F : List D → FRes), K.In h ∧ (∀ (s : Shared) (u : Value), BindsTo s fd ⟨[u], []⟩ [(x, u)]) ∧
        (∀ ns : List Int, ns.length ≤ n → (∀ z ∈ ns, Builtin.Int.intBits z ≤ 1048576) → F [.scr ns] = .ok (.bl true) []) ∧
        ∀ base : Heap, K.In base → base.Ns mainGlobals mg → FnOk l.prog w K mg base (L2.CX l.prog w) k fa fd [x] (spF K mg [false] F)) :
    PySem.W.WalkO q loose XP YP l.row.toRowW d [] (fun f vs => PySem.call f vs) := by
  refine Att.attach_callB hn hdf fun w s₀ s₁ mg mb fa o pm cd doc a vs ns G Y ho hd hcd hmg hobj hints hlen hbits hg => ?_
  obtain ⟨K, fd, F, KX, hb, hP, hF⟩ := F w mg fa _ Y G.T.g hmg
  exact law_call KX G.T.g G.T.b G.T.builtins G.T.nolimit hg hobj hints (Nat.le_trans hlen hn2) hr hF hb (fun H hO hS => law_end hO hS (Nat.le_trans hlen hn2) (hP ns hlen hbits)) fun H e s' z => by
    obtain ⟨_, _, _, _, _, _, _, _, _, _, _, _, z⟩ := z
    exact z
end NV

set_option Elab.async false
set_option linter.all false
set_option maxRecDepth 100000
set_option maxHeartbeats 4000000
/-! Core13: dead paths, globals, - , len(set(..)), join, dict displays, calls without arguments, list methods. -/
namespace NV
open PySem PySem.Spec PyProof.Rows L2

/-! ### what is not reached -/
section
variable {X : Cx} {W : WX} {e a : Expr} {pos p p2 q apos cpos : Pos} {x : Str}
/-! ### globals -/
def Gv (K : PySem.W.Frag) (mg : Str → Option Value) (x : Str) (d : D) : Prop := ∃ (v : V) (u : Value), mg x = some u ∧ RelV v u ∧ ∀ (M : Addr → Prop) (H : Hp), Rp K M H d v
theorem de_glob {d : D} (h : Gv X.K X.mg x d) (hg : Gl X x) (hd : (x == ("__debug__" : Str)) = false := by decide) : DE X W (.Name x pos) (eC d) := by
  obtain ⟨v, u, h1, h2, h3⟩ := h
  exact de_c (pe_glob hg h1 h2 hd) h3
/-! ### - e -/
/-! ### len(set(e)), texts -/
def strsOf : List D → Option (List Str)
  | [] => some []
  | .str x :: ds => (strsOf ds).map fun l => x :: l
  | _ => none
theorem strs_rpl {K : PySem.W.Frag} {M : Addr → Prop} {H : Hp} : ∀ {ds : List D} {xs : List Str} {vs : List V}, strsOf ds = some xs → RpL K M H ds vs → vs = xs.map V.str ∧ ds = xs.map D.str ∧ ∀ x ∈ xs, StrG x
  | [], xs, vs, e, h => by cases e; cases h; exact ⟨rfl, rfl, fun _ z => by cases z⟩
  | d :: ds, xs, vs, e, h => by
    cases d with
    | str i =>
      cases h with
      | cons a b =>
        cases e2 : strsOf ds with
        | none => simp only [strsOf, e2] at e; cases e
        | some l =>
          simp only [strsOf, e2] at e
          cases e
          obtain ⟨e3, e4, e5⟩ := strs_rpl e2 b
          cases a with
          | str g => exact ⟨by rw [e3]; rfl, by rw [e4]; rfl, fun y hy => (List.mem_cons.mp hy).elim (fun z => z ▸ g) (e5 y)⟩
    | _ => cases e
theorem rpl_strs {K : PySem.W.Frag} {M : Addr → Prop} {H : Hp} : ∀ {xs : List Str}, (∀ x ∈ xs, StrG x) → RpL K M H (xs.map D.str) (xs.map V.str)
  | [], _ => .nil
  | x :: xs, h => .cons (.str (h x List.mem_cons_self)) (rpl_strs fun y hy => h y (List.mem_cons_of_mem _ hy))
def seqStrs (d : D) : Option (List Str) := match d with
  | .tup ds => strsOf ds
  | .lst ds => strsOf ds
  | _ => none
theorem seq_strs {K : PySem.W.Frag} {M : Addr → Prop} {H : Hp} {d : D} {v : V} {xs : List Str} (h : Rq K M H d v) (e : seqStrs d = some xs) : ∃ p, v = .ref p ∧ (SqL K H p (xs.map V.str) ∨ SqT K H p (xs.map V.str)) ∧ ∀ x ∈ xs, StrG x := by
  cases d with
  | tup ds =>
    obtain ⟨a, vs, rfl, l, h1, h2⟩ := rq_tup h
    obtain ⟨e1, _, g⟩ := strs_rpl e h2
    subst e1
    exact ⟨a, rfl, .inr h1, g⟩
  | lst ds =>
    obtain ⟨a, vs, rfl, l, h1, h2⟩ := rq_lst h
    obtain ⟨e1, _, g⟩ := strs_rpl e h2
    subst e1
    exact ⟨a, rfl, .inl (SqL.of h1), g⟩
  | _ => cases e
/-! ### 'x'.join(e), x.upper() -/
def strGb (x : Str) : Bool := decide (x.length ≤ sizeLine) && PySem.PyData.strOk x
theorem strGb_ok {x : Str} (h : strGb x = true) : StrG x := by
  unfold strGb at h
  rw [Bool.and_eq_true] at h
  exact ⟨of_decide_eq_true h.1, by simpa using h.2⟩
def joinD (d e : D) : Option D := match d, seqStrs e with
  | .str x, some ys => if (ys.map (·.length)).sum + ys.length * x.length ≤ 16777216 ∧ strGb (Txt.join x ys) = true then some (.str (Txt.join x ys)) else none
  | _, _ => none
def isStr : D → Bool
  | .str _ => true
  | _ => false
def eJoin (mo me : EM) : EM := fun ρ => (mo ρ).bind fun d ρ1 => if isStr d then (me ρ1).bind fun e ρ2 => ofO (joinD d e) ρ2 else .bad
theorem de_join {o : Expr} {mo me : EM} (ho : DE X W o mo) (he : DE X W e me) (hs : starEach [e] X.env = [(false, eval e X.env)] := by rfl) (hbase : attributeBase o "join" X.env (eval o X.env) = eval o X.env := by rfl) (hline : (apos.endLine == pos.line) = true := by rfl) :
    DE X W (.Call (.Attribute o "join" apos) [e] [] pos) (eJoin mo me) := by
  obtain ⟨t, pt, s⟩ := ho
  obtain ⟨u, pu, s'⟩ := he
  refine ⟨_, pe_join pt pu hs hbase hline, fun B M H ρ σ Q rp k => s B M H ρ σ _ rp (Post.seq k fun d ρ1 M1 H1 v x1 r1 q1 k1 => ?_)⟩
  cases d with
  | str z =>
    cases q1
    refine ⟨⟨z, rfl⟩, s' B M1 H1 ρ1 σ _ r1 (Post.seq k1 fun d2 ρ2 M2 H2 v2 x2 r2 q2 k2 => ?_)⟩
    cases e2 : seqStrs d2 with
    | none => simp only [joinD, e2] at k2; exact k2.elim
    | some ys =>
      simp only [joinD, e2] at k2
      split at k2
      · rename_i hc
        obtain ⟨l, rfl, h1, _⟩ := seq_strs q2.rq e2
        exact ⟨z, l, ys, rfl, rfl, h1, hc.1, k2 M2 H2 _ Ext.refl r2 (.str (strGb_ok hc.2))⟩
      · exact k2.elim
  | _ => exact k1.elim
end
end NV

set_option Elab.async false
set_option linter.all false
set_option maxRecDepth 100000
set_option maxHeartbeats 4000000
/-! Core14: dict displays, calls without arguments, [::-1], list methods, str(i), tuple(text). -/
namespace NV
open PySem PySem.Spec PyProof.Rows L2

/-! ### {k: v, ..} -/
section
variable {X : Cx} {W : WX} {pos p apos cpos : Pos}
/-! ### f() -/
/-! ### str(i), tuple('..') -/
def strI : List D → Option D
  | [.int i] => if i.natAbs.log2 < 1920 ∧ strGb (toString i : Str) = true then some (.str (toString i : Str)) else none
  | _ => none
theorem f_strI : CallE X strI (fun xs H Q => ∃ i, xs = [.int i] ∧ i.natAbs.log2 < 1920 ∧ Q (.str (toString i)) H) := by
  intro B W M H ρ σ ds z xs Q rp hp hf h
  unfold strI at hf
  split at hf
  · split at hf
    · rename_i hc
      cases hf
      cases hp with | cons a b => cases b; obtain rfl := rq_int a; exact ⟨_, rfl, hc.1, post_v h rp (.str (strGb_ok hc.2))⟩
    · cases hf
  · cases hf
def signs (x : Str) : List D := x.cps.toList.map fun c => .str ⟨#[c]⟩
end
end NV

set_option Elab.async false
set_option linter.all false
set_option maxRecDepth 100000
set_option maxHeartbeats 4000000
/-! Core15: e[::-1] of a list, a tuple, a text. -/
namespace NVS
open PySem PySem.Spec PyProof.Rows HT
section
variable {pr : Program} {wo : World} {A : Around} {X0 : Value → Shared → Prop} {st : Shared}
theorem adjust_rev (n : Nat) : Builtin.Slice.sliceAdjust none none (-1) (n : Int) = ((n : Int) - 1, -1) := rfl
theorem places_rev (n : Nat) : Builtin.Slice.slicePlaces ((n : Int) - 1) (-1) (-1) = n := by
  unfold Builtin.Slice.slicePlaces
  have h1 : ¬ ((-1 : Int) > 0) := by decide
  rw [if_neg h1]
  by_cases h : (n : Int) - 1 > -1
  · rw [if_pos h]
    have e : ((n : Int) - 1 - -1 - 1) / (- -1) + 1 = (n : Int) := by
      rw [show (- -1 : Int) = 1 by decide, Int.ediv_one]
      omega
    rw [e]
    exact Int.toNat_natCast n
  · rw [if_neg h]
    omega
theorem applied_rev {sl : Addr} {n : Nat} {u : Tok} {R : Int × Int × Nat → Shared → Prop} (hs : st.heap.IsSliceOf sl .none .none (.int (-1) u)) (h : R ((n : Int) - 1, -1, n) st) : wpAny (model pr wo) A (Builtin.Slice.sliceApplied (.ref sl) (pure (n : Int))) R X0 st := by
  obtain ⟨ob, hob, cob, dob⟩ := id hs
  unfold Builtin.Slice.sliceApplied Builtin.Slice.sliceFields
  refine wpAny_bind (wpAny_bind (wpAny_field hob dob (x := .none) rfl (wpAny_bind (wpAny_field hob dob (x := .none) rfl (wpAny_bind (wpAny_field hob dob (x := .int (-1) u) rfl (wpAny_pure ?_)))))))
  refine wpAny_bind (slicePart_int ?_)
  show wpAny _ _ (if ((-1 : Int) == 0) = true then _ else _) _ _ st
  rw [if_neg (by decide)]
  refine wpAny_bind (slicePart_none (wpAny_bind (slicePart_none (wpAny_bind (wpAny_pure ?_)))))
  show wpAny _ _ (match Builtin.Slice.sliceAdjust none none (-1) (n : Int) with | (a, b) => pure (a, (-1 : Int), Builtin.Slice.slicePlaces a b (-1))) _ _ st
  rw [adjust_rev]
  show wpAny _ _ (pure ((n : Int) - 1, (-1 : Int), Builtin.Slice.slicePlaces ((n : Int) - 1) (-1) (-1))) _ _ st
  rw [places_rev]
  exact wpAny_pure h
theorem pick_rev (xs : Array Value) : ((List.range xs.size).filterMap fun (k : Nat) => xs[((xs.size : Int) - 1 + (k : Int) * -1).toNat]?).toArray = xs.toList.reverse.toArray := by
  have e : (List.range xs.size).filterMap (fun (k : Nat) => xs[((xs.size : Int) - 1 + (k : Int) * -1).toNat]?) = ((List.range xs.size).map fun k => xs.size - 1 - k).filterMap (xs[·]?) := by
    have e1 : ∀ (f : Nat → Option Value) (l : List Nat), l.filterMap f = (l.map f).filterMap id := fun f l => by rw [List.filterMap_map]; rfl
    rw [List.filterMap_map, e1, e1]
    congr 1
    refine List.map_congr_left fun k hk => ?_
    have := List.mem_range.mp hk
    show xs[((xs.size : Int) - 1 + (k : Int) * -1).toNat]? = xs[xs.size - 1 - k]?
    rw [show ((xs.size : Int) - 1 + (k : Int) * -1).toNat = xs.size - 1 - k by omega]
  rw [e, PySem.W.krv_range, List.filterMap_reverse, PySem.W.krv_all]
theorem tuple_rev {t sl : Addr} {arr : Array Value} {u : Tok} {R : Value → Shared → Prop} (ht : IsTup st.heap t arr) (hs : st.heap.IsSliceOf sl .none .none (.int (-1) u))
    (h : R (.ref st.heap.objs.size) { st with heap := st.heap.push { cls := .type "tuple", data := .seq arr.toList.reverse.toArray } }) (sz : arr.size ≤ sizeLine) : wpAny (model pr wo) A (getItem (.ref t) (.ref sl)) R X0 st := by
  have fits : sizeOk (.seq arr.toList.reverse.toArray) := by
    show arr.toList.reverse.toArray.size ≤ sizeLine
    rw [List.size_toArray, List.length_reverse, Array.length_toList]
    exact sz
  obtain ⟨ob, hob, cob, dob⟩ := id hs
  have ty : st.TypeIs (.ref sl) "slice" := ⟨ob, hob, cob⟩
  unfold getItem
  try with_reducible refine wpAny_holding ?_
  first | refine wpAny_bind (wpAny_pure ?_) | skip
  refine wpAny_bind (wpAny_sequenceKey ht.typeIs (by decide) ?_)
  refine wpAny_bind (wpAny_callSpecial?_slot (name := Str.ofString "__getitem__") ht.typeIs slot_tuple_getitem (wpAny_call_entry slot_tuple_getitem ht.typeIs entry_tuple_getitem ?_ (args_tuple_getitem _ _)))
  show wpAny _ _ (Builtin.Tuple.tupleItemsOf (.ref t) >>= _) _ _ st
  refine wpAny_bind (tupleItemsOf_ ht ?_)
  refine wpAny_bind (wpAny_typeOf ty ?_)
  rw [if_pos (by decide)]
  refine wpAny_bind (applied_rev hs ?_)
  show wpAny _ _ (if (((arr.size : Int) - 1) == 0 && (-1 : Int) == 1 && arr.size == arr.size) = true then _ else _) _ _ st
  rw [if_neg (by simp), pick_rev]
  first
    | exact wpAny_bind (m := Builtin.Tuple.tupleExact _) (wpAny_newObj_type (wpAny_pure ⟨_, rfl, wpAny_pure h⟩) fits)
    | exact wpAny_bind (m := Builtin.Tuple.tupleExact _) (wpAny_newObj_type (wpAny_bind (wpAny_pure (wpAny_pure ⟨_, rfl, wpAny_pure h⟩))) fits)
    | exact wpAny_bind (wpAny_bind (m := Builtin.Tuple.tupleExact _) (wpAny_newObj_type (wpAny_pure (wpAny_pure ⟨_, rfl, wpAny_pure h⟩)) fits))
    | exact wpAny_bind (wpAny_bind (m := Builtin.Tuple.tupleExact _) (wpAny_newObj_type (wpAny_pure ⟨_, rfl, wpAny_pure h⟩) fits))
end
end NVS

namespace NV
open PySem PySem.Spec PyProof.Rows L2
def revS (x : Str) : Str := ⟨x.cps.toList.reverse.toArray⟩
theorem revS_length (x : Str) : (revS x).length = x.length := by
  show x.cps.toList.reverse.toArray.size = x.cps.size
  rw [List.size_toArray, List.length_reverse, Array.length_toList]
theorem revS_ok {x : Str} (h : StrG x) : StrG (revS x) := by
  refine ⟨by rw [revS_length]; exact h.1, ?_⟩
  have h2 := h.2
  unfold PySem.PyData.strOk at h2 ⊢
  rw [Array.all_eq_true_iff_forall_mem] at h2 ⊢
  intro c hc
  exact h2 c (by simpa [revS] using hc)
theorem picked_rev (x : Str) (t : Tok) : sliceMade x t none none (some (-1, t)) = Made.str (revS x) := by
  unfold sliceMade
  rw [if_neg (by simp)]
  have e : slicePicked x none none (some (-1, t)) = (List.range x.length).map fun k => x.length - 1 - k := by
    unfold slicePicked
    show Builtin.Str.strSliceIndices none none (-1) x.length = _
    unfold Builtin.Str.strSliceIndices
    exact PySem.W.krv_sliceRange x.length
  have e2 : x.length = x.cps.size := rfl
  rw [e, PySem.W.krv_range, List.filterMap_reverse, e2, PySem.W.krv_all]
  rfl
def revD (d : D) : Option D := match d with
  | .lst ds => some (.lst ds.reverse)
  | .tup ds => some (.tup ds.reverse)
  | .str x => some (.str (revS x))
  | _ => none
section
variable {X : Cx} {W : WX}
def tRev3 (K : PySem.W.Frag) (te : TE) : TE := fun σ H Q => te σ H fun x H1 => (∃ a xs, x = .ref a ∧ SqL K H1 a xs ∧ ∀ p, H1 p = none → Q (.ref p) (upd H1 p (.lst xs.reverse))) ∨ (∃ a xs, x = .ref a ∧ SqT K H1 a xs ∧ ∀ p, H1 p = none → Q (.ref p) (upd H1 p (.tup xs.reverse))) ∨
  ∃ z, x = .str z ∧ z.length ≤ sizeLine ∧ Q (.str (revS z)) H1
theorem pe_rev3 {e : Expr} {te : TE} {k : Nat} {p1 p2 p3 pos : Pos} (he : PE X e te) : PE X (.Subscript e (.Slice none none (some (.UnaryOp .USub (.Constant (.int 1) k p1) p2)) p3) pos) (tRev3 X.K te) := by
  refine ⟨fun pins s σ H Q I h => ?_⟩
  refine Subscript_ (thn (he.run pins s σ H _ I h) fun v s1 ⟨x, H1, I1, r1, q1⟩ => ?_)
  have step : PO X (some (.UnaryOp .USub (.Constant (.int 1) k p1) p2)) (tPart (tUn (rU fun i => .int (-i)) (tC (.int 1)))) := po_some (pe_un un_neg pe_int)
  refine wpAny_Slice (thn (po_none.run pins s1 σ H1 (fun o H2 => o = none ∧ H2 = H1) I1 ⟨rfl, rfl⟩) fun vl s2 ⟨l, H2, I2, pl, el, e2⟩ => ?_)
  subst el e2
  refine thn (po_none.run pins s2 σ H2 (fun o H3 => o = none ∧ H3 = H2) I2 ⟨rfl, rfl⟩) fun vu s3 ⟨u, H3, I3, pu, eu, e3⟩ => ?_
  subst eu e3
  refine thn (step.run pins s3 σ H3 (fun o H4 => o = some (-1) ∧ H4 = H3) I3 ⟨1, rfl, -1, rfl, rfl, rfl⟩) fun vs s4 ⟨o, H4, I4, ps, eo, e4⟩ => ?_
  subst eo e4
  cases pl
  cases pu
  have ⟨tk, evs⟩ : ∃ t, vs = .int (-1) t := by cases ps with | int _ t => exact ⟨t, rfl⟩
  subst evs
  have I5 : Inv X pins σ H4 { s4 with heap := s4.heap.push { cls := .type "slice", data := .fields #[.none, .none, .int (-1) tk] } } := I4.kept (t' := s4.toks) fun b ob q => Heap.get?_push_of_some _ q
  show wpAny (model X.prog X.w) X.A (subscriptTail e (.Slice none none (some (.UnaryOp .USub (.Constant (.int 1) k p1) p2)) p3) v (.ref s4.heap.objs.size)) (EP X pins σ Q) X.xe { s4 with heap := s4.heap.push { cls := .type "slice", data := .fields #[.none, .none, .int (-1) tk] } }
  rcases q1 with ⟨a, xs, ex, hx, q⟩ | ⟨a, xs, ex, hx, q⟩ | ⟨z, ex, hz, q⟩
  · subst ex
    cases r1
    obtain ⟨its, r, ht, hz⟩ := I5.list hx
    have hlen := r.length
    refine tail_any (ops := [.ref a, .ref s4.heap.objs.size]) ht.isList.typeIs (PySem.slot_list_getitem.lookup) ?_ (by with_unfolding_all rfl)
    refine wpAny_getItem_list_slice ht.isList (Heap.IsSliceOf.new _ .none .none (.int (-1) tk)) .none .none (.int _ _) (by decide) ?_ (by rw [List.size_toArray]; omega)
    rw [PySem.W.krv_pick]
    refine ⟨.ref _, _, I5.laid (t' := s4.toks) (o := .lst xs.reverse) (fun b ob q => Heap.get?_push_of_some _ q) (Nat.le_refl _) ?_, rfl, q _ (I5.hok.fresh (Nat.le_refl _))⟩
    exact ⟨by rw [List.length_reverse]; exact hz, _, 0, r.reverse, Heap.get?_push_size _ rfl⟩
  · subst ex
    cases r1
    obtain ⟨its, r, ht, hz⟩ := I5.tuple hx
    have hlen := r.length
    refine tail_any (ops := [.ref a, .ref s4.heap.objs.size]) ht.typeIs (PyProof.Rows.slot_tuple_getitem.lookup) ?_ (by with_unfolding_all rfl)
    refine NVS.tuple_rev ht (Heap.IsSliceOf.new _ .none .none (.int (-1) tk)) ?_ (by rw [List.size_toArray]; omega)
    refine ⟨.ref _, _, I5.laid (t' := s4.toks) (o := .tup xs.reverse) (fun b ob q => Heap.get?_push_of_some _ q) (Nat.le_refl _) ?_, rfl, q _ (I5.hok.fresh (Nat.le_refl _))⟩
    exact ⟨by rw [List.length_reverse]; exact hz, _, r.reverse, IsTup.new _ _⟩
  · subst ex
    obtain ⟨t, rfl⟩ := r1
    refine tail_any (ops := [.str z t, .ref s4.heap.objs.size]) (typeIs_str _ _ _) (F.slot_str_getitem.lookup) ?_ (by with_unfolding_all rfl)
    refine wpAny_getItem_str_slice (l := none) (u := none) (st := some (-1, tk)) (Heap.IsSliceOf.new _ .none .none (.int (-1) tk)) rfl ?_
    have e : sliceMade z t none none (some (-1, tk)) = Made.str (revS z) := picked_rev z t
    rw [e]
    exact ⟨by rw [revS_length]; exact hz, .str _, H4, I5.tok _, ⟨_, rfl⟩, q⟩
def eRev (m : RM) : EM := fun ρ => (m ρ).bind fun x ρ1 => (ofO (x.get ρ1) ρ1).bind fun d _ => ofO (revD d) ρ1
theorem de_rev {e : Expr} {m : RM} {k : Nat} {p1 p2 p3 pos : Pos} (h : DR X W e m) : DE X W (.Subscript e (.Slice none none (some (.UnaryOp .USub (.Constant (.int 1) k p1) p2)) p3) pos) (eRev m) := by
  obtain ⟨t, pt, s⟩ := h
  refine ⟨_, pe_rev3 pt, fun B M H ρ σ Q rp k => s B M H ρ σ _ rp (Post.seq k fun x ρ1 M1 H1 v x1 r1 q1 k1 => ?_)⟩
  cases ex : x.get ρ1 with
  | none => rw [ex] at k1; exact k1.elim
  | some d =>
    rw [ex] at k1
    simp only [ofO, Res.bind] at k1
    have hq := q1.rq Ext.refl r1 ex
    cases d with
    | lst ds =>
      obtain ⟨a, vs, rfl, l, h1, h2⟩ := rq_lst hq
      exact .inl ⟨a, vs, rfl, SqL.of h1, fun p hp => post_l k1 r1 h2.reverse (by rw [List.length_reverse]; exact l) hp⟩
    | tup ds =>
      obtain ⟨a, vs, rfl, l, h1, h2⟩ := rq_tup hq
      exact .inr (.inl ⟨a, vs, rfl, h1, fun p hp => post_t k1 r1 h2.reverse (by rw [List.length_reverse]; exact l) hp⟩)
    | str z =>
      obtain ⟨rfl, g⟩ := rq_str hq
      exact .inr (.inr ⟨z, rfl, g.1, post_v k1 r1 (.str (revS_ok g))⟩)
    | _ => exact k1.elim
end
end NV

set_option Elab.async false
set_option linter.all false
set_option maxRecDepth 100000
set_option maxHeartbeats 4000000
/-! Core16: tuple(text), more list methods, defs that call themselves, facts of globals. -/
namespace NV
open PySem PySem.Spec PyProof.Rows L2

/-! ### tuple(x), x a list, a tuple, a text -/
def rTupS : List V → Hp → VK → Prop := fun xs H Q => ∃ x : Str, xs = [.str x] ∧ x.length ≤ sizeLine ∧ ∀ p, H p = none → Q (.ref p) (upd H p (.tup (x.cps.toList.map fun c => V.str ⟨#[c]⟩)))
section
variable {X : Cx} {W : WX}
theorem call_tupS (hc : X.calm = true) : CallR X (.type "tuple") rTupS := by
  intro pins s σ H xs us Q I r h
  obtain ⟨x, rfl, hz, q⟩ := h
  obtain ⟨u, rfl, t, rfl⟩ := vals1 r
  refine call_tuple_str (I.ok.hd hc) x t (fun g k acc hk hi => ?_) hz
  have I2 : Inv X pins σ H { s with heap := g, toks := k } := I.kept hk
  have hv : Vals (x.cps.toList.map fun c => V.str ⟨#[c]⟩) acc.toList := by
    refine vals_of_at (by rw [List.length_map, Array.length_toList, Array.length_toList, hi.1]) fun j v u hj hu => ?_
    obtain ⟨c, tk, e1, rfl⟩ := hi.2 j u (by rw [← hu, Array.getElem?_toList])
    rw [List.getElem?_map, Array.getElem?_toList, e1] at hj
    cases hj
    exact ⟨tk, rfl⟩
  refine ⟨.ref g.objs.size, _, I2.laid (t' := k) (fun c o e => Heap.get?_push_of_some _ e) (Nat.le_refl _) (show ObjOk X.prog X.w _ _ _ (.tup (x.cps.toList.map fun c => V.str ⟨#[c]⟩)) from ⟨?_, acc.toList, hv, ?_⟩), rfl, q _ (I2.hok.fresh (Nat.le_refl _))⟩
  · rw [List.length_map, Array.length_toList]; exact hz
  · rw [Array.toArray_toList]; exact IsTup.new _ _
def tuple3D : List D → Option D
  | [.lst xs] => some (.tup xs)
  | [.tup xs] => some (.tup xs)
  | [.str x] => some (.tup (x.cps.toList.map fun c => D.str ⟨#[c]⟩))
  | _ => none
def rTup3 (K : PySem.W.Frag) : List V → Hp → VK → Prop := fun xs H Q => (∃ p ys, xs = [.ref p] ∧ ((SqL K H p ys ∧ ∀ l, H l = none → Q (.ref l) (upd H l (.tup ys))) ∨ (SqT K H p ys ∧ Q (.ref p) H))) ∨ rTupS xs H Q
theorem call_tup3 (hc : X.calm = true) : CallR X (.type "tuple") (rTup3 X.K) := call_tuple_of.or (call_tupS hc)
theorem sign_ok {x : Str} (h : StrG x) {c : Nat} (hc : c ∈ x.cps.toList) : StrG ⟨#[c]⟩ := by
  refine ⟨by rw [sizeLine_eq]; show (1 : Nat) ≤ _; omega, ?_⟩
  have h2 := h.2
  unfold PySem.PyData.strOk at h2 ⊢
  rw [Array.all_eq_true_iff_forall_mem] at h2 ⊢
  intro y hy
  have e : y = c := by simpa using hy
  subst e
  exact h2 y (by simpa using hc)
theorem signs_rpl {K : PySem.W.Frag} {M : Addr → Prop} {H : Hp} : ∀ (cs : List Nat), (∀ c ∈ cs, StrG ⟨#[c]⟩) → RpL K M H (cs.map fun c => D.str ⟨#[c]⟩) (cs.map fun c => V.str ⟨#[c]⟩)
  | [], _ => .nil
  | c :: cs, h => .cons (.str (h c List.mem_cons_self)) (signs_rpl cs fun c hc => h c (List.mem_cons_of_mem _ hc))
theorem f_tup3 : CallE X tuple3D (rTup3 X.K) := by
  intro B W M H ρ σ ds z xs Q rp hp hf h
  unfold tuple3D at hf
  split at hf
  · exact .inl (f_tuple B W M H ρ σ _ z xs Q rp hp hf h)
  · exact .inl (f_tuple B W M H ρ σ _ z xs Q rp hp hf h)
  · cases hf
    cases hp with
    | cons a b =>
      cases b
      obtain ⟨rfl, g⟩ := rq_str a
      exact .inr ⟨_, rfl, g.1, fun p hp => post_t h rp (signs_rpl _ fun c hc => sign_ok g hc) (by rw [List.length_map, Array.length_toList]; exact g.1) hp⟩
  · cases hf

/-! ### xs.extend(ys), xs.pop() -/
end

/-! ### a def that calls itself: n deep -/
theorem Has.up {P : Program} {w : World} {K : PySem.W.Frag} {mg : Str → Option Value} {base : Heap} {j k : Nat} {x : Str} {fl : List Bool} {F : List D → FRes} (h : Has P w K mg base j x fl F) (hk : j ≤ k) : Has P w K mg base k x fl F := by
  obtain ⟨f, fd, ps, h1, h2⟩ := h
  exact ⟨f, fd, ps, h1.mono hk, h2⟩

/-! ### the head's facts, widened by checks of one's own -/
section
variable {K : PySem.W.Frag} {h : Heap} {mg : Str → Option Value}
theorem gv_int (X : K.In h) (G : h.Ns mainGlobals mg) {x : Str} {i : Int} (c : (He.Fa.int x i).ok K = true) : Gv K mg x (.int i) := by
  obtain ⟨t, e⟩ := He.int_ok X G c
  exact ⟨.int i, _, e, ⟨t, rfl⟩, fun _ _ => .int i⟩
theorem gv_str (X : K.In h) (G : h.Ns mainGlobals mg) {x z : Str} (c : (He.Fa.str x z).ok K = true) (g : strGb z = true) : Gv K mg x (.str z) := by
  obtain ⟨t, e⟩ := He.str_ok X G c
  exact ⟨.str z, _, e, ⟨t, rfl⟩, fun _ _ => .str (strGb_ok g)⟩
theorem gv_tupS (X : K.In h) (G : h.Ns mainGlobals mg) {x : Str} {zs : List Str} (c : (He.Fa.glo x).ok K = true) (t : tupS x zs K = true) (g : (zs.all strGb && decide (zs.length ≤ 1000)) = true) : Gv K mg x (.tup (zs.map D.str)) := by
  rw [Bool.and_eq_true] at g
  refine ⟨.ref (He.ga K x), .ref (He.ga K x), He.glo_ok X G c, rfl, fun M H => .tup (by rw [List.length_map, sizeLine_eq]; have := of_decide_eq_true g.2; omega) (He.tupB_ok t H) ?_⟩
  have e : (zs.map He.Dv.str).map (He.Dv.v K) = zs.map V.str := by rw [List.map_map]; rfl
  rw [e]
  exact rpl_strs fun y hy => strGb_ok (List.all_eq_true.mp g.1 y hy)
end
end NV

set_option Elab.async false
set_option linter.all false
set_option maxRecDepth 100000
set_option maxHeartbeats 4000000
/-! Core17: tuple * int, sorted(set(ints)), list.count. -/
namespace NVS
open PySem PySem.Spec PyProof.Rows L2
theorem tup_mul_same (l : Addr) (items : Array Value) (n : Nat) (dd : Option Addr) (sl : Array (Option Value)) (x : Int) (u : Tok) (c0 : (decide (x < -(2 ^ 63)) || decide (x ≥ 2 ^ 63)) = false) (c1 : (items.isEmpty || x == 1) = true) :
    Meets (Builtin.«tuple.__mul__» ⟨[.ref l, .int x u], []⟩) (fun _ R st => st.heap.get? l = some { cls := .type "tuple", dict := dd, data := .seq items n, slots := sl } ∧ R (.ok (.ret (Value.ref l))) st) :=
  .of_wp fun pr wo A R st hh => by
    obtain ⟨hp, g, d, tk, os⟩ := st
    obtain ⟨hl, hh⟩ := hh
    have f1 := AutoSeq1.idx_int
    wp_walk using wpAny_loadPart' hl
    repeat (first
      | (refine wpAny_ite_false (decide_eq_false (by rw [c0]; exact Bool.false_ne_true)) ?_; wp_walk using wpAny_loadPart' hl)
      | (refine wpAny_ite_true (decide_eq_true c1) ?_; wp_walk using wpAny_loadPart' hl))
    exact ⟨_, rfl, hh⟩
theorem tup_mul_none (l : Addr) (items : Array Value) (n : Nat) (dd : Option Addr) (sl : Array (Option Value)) (x : Int) (u : Tok) (c0 : (decide (x < -(2 ^ 63)) || decide (x ≥ 2 ^ 63)) = false) (c1 : (items.isEmpty || x == 1) = false) (c2 : (decide (x ≤ 0) || items.isEmpty) = true) :
    Meets (Builtin.«tuple.__mul__» ⟨[.ref l, .int x u], []⟩) (fun _ R st => st.heap.get? l = some { cls := .type "tuple", dict := dd, data := .seq items n, slots := sl } ∧
      R (.ok (.ret (Value.ref st.heap.objs.size))) { st with heap := st.heap.push { cls := Value.type "tuple", data := Data.seq #[] }, toks := st.toks }) :=
  .of_wp fun pr wo A R st hh => by
    obtain ⟨hp, g, d, tk, os⟩ := st
    obtain ⟨hl, hh⟩ := hh
    have f1 := AutoSeq1.idx_int
    wp_walk using wpAny_loadPart' hl
    repeat (first
      | (refine wpAny_ite_false (decide_eq_false (by rw [c0]; exact Bool.false_ne_true)) ?_; wp_walk using wpAny_loadPart' hl)
      | (refine wpAny_ite_false (decide_eq_false (by rw [c1]; exact Bool.false_ne_true)) ?_; wp_walk using wpAny_loadPart' hl)
      | (refine wpAny_ite_true (decide_eq_true c2) ?_; wp_walk using wpAny_loadPart' hl))
    exact ⟨_, rfl, hh⟩
end NVS
namespace NV
open PySem PySem.Spec PyProof.Rows L2
/-! ### tuple * int -/
def rRepAny (K : PySem.W.Frag) : R2 := fun x y H Q => ∃ (l : Addr) (k : Int) (xs : List V), x = .ref l ∧ y = .int k ∧ SqT K H l xs ∧ -(2 ^ 62) ≤ k ∧ k ≤ 1000 ∧ xs.length ≤ 1000 ∧ ((xs = [] ∨ k = 1) → Q (.ref l) H) ∧
  (xs ≠ [] → k ≤ 0 → ∀ p, H p = none → Q (.ref p) (upd H p (.tup []))) ∧ (xs ≠ [] → 2 ≤ k → ∀ p, H p = none → Q (.ref p) (upd H p (.tup (List.replicate k.toNat xs).flatten)))
theorem op_repAny {X : Cx} : OpR X (binaryOp .Mult) (rRepAny X.K) := by
  intro pins s σ H x y v u Q I rx ry h
  obtain ⟨l, k, xs, rfl, rfl, hT, h0, h1, hz, q1, q2, q3⟩ := h
  by_cases c : xs ≠ [] ∧ 2 ≤ k
  · exact op_repT pins s σ H _ _ v u Q I rx ry ⟨l, k, xs, rfl, rfl, hT, c.1, c.2, h1, hz, q3 c.1 c.2⟩
  · cases rx
    obtain ⟨t, rfl⟩ := ry
    obtain ⟨its, r, ⟨⟨cls, dd, data, sl⟩, ho, hc, n, hd⟩, hs⟩ := I.tuple hT
    simp only at hc hd
    subst hc hd
    have c0 : (decide (k < -(2 ^ 63)) || decide (k ≥ 2 ^ 63)) = false := by
      rw [decide_eq_false (by omega), decide_eq_false (by omega)] <;> rfl
    have he : its.toArray.isEmpty = xs.isEmpty := by cases r <;> rfl
    by_cases c1 : xs = [] ∨ k = 1
    · have c1' : (its.toArray.isEmpty || k == 1) = true := by
        rw [he]
        rcases c1 with e | e
        · rw [e]; rfl
        · rw [e]; simp
      exact wpAny_binaryOp_repeat_ref (T := "tuple") (U := "int") (by decide) ⟨_, ho, rfl⟩ (fun s' => typeIs_int s' k t) noFill_tuple_mul F.fills_int_mul F.slot_int_rmul repeat_tuple F.slot_int_index.lookup
        (call_meets F.slot_int_rmul (typeIs_int s k t) F.entry_int_rmul (F.args_int_rmul_2 _ _) (int_rmul_tuple k t l its.toArray n dd sl)
          ⟨ho, rfl, ⟨_, ho, rfl⟩, call_meets F.slot_tuple_mul ⟨_, ho, rfl⟩ F.entry_tuple_mul (F.args_tuple_mul_2 _ _) (NVS.tup_mul_same l its.toArray n dd sl k t c0 c1') ⟨ho, .ref l, H, I, rfl, q1 c1⟩⟩)
    · have hne : xs ≠ [] := fun e => c1 (.inl e)
      have hk1 : k ≠ 1 := fun e => c1 (.inr e)
      have hk : k ≤ 0 := by
        have : ¬ 2 ≤ k := fun z => c ⟨hne, z⟩
        omega
      have ex : xs.isEmpty = false := by cases xs with
        | nil => exact absurd rfl hne
        | cons _ _ => rfl
      have c1' : (its.toArray.isEmpty || k == 1) = false := by
        rw [he, ex, Bool.false_or]
        exact beq_eq_false_iff_ne.mpr hk1
      have c2' : (decide (k ≤ 0) || its.toArray.isEmpty) = true := by rw [decide_eq_true hk]; rfl
      refine wpAny_binaryOp_repeat_ref (T := "tuple") (U := "int") (by decide) ⟨_, ho, rfl⟩ (fun s' => typeIs_int s' k t) noFill_tuple_mul F.fills_int_mul F.slot_int_rmul repeat_tuple F.slot_int_index.lookup
        (call_meets F.slot_int_rmul (typeIs_int s k t) F.entry_int_rmul (F.args_int_rmul_2 _ _) (int_rmul_tuple k t l its.toArray n dd sl)
          ⟨ho, rfl, ⟨_, ho, rfl⟩, call_meets F.slot_tuple_mul ⟨_, ho, rfl⟩ F.entry_tuple_mul (F.args_tuple_mul_2 _ _) (NVS.tup_mul_none l its.toArray n dd sl k t c0 c1' c2') ⟨ho, ?_⟩⟩)
      refine ⟨.ref s.heap.objs.size, _, I.laid (t' := s.toks) (o := .tup []) (fun b ob q => Heap.get?_push_of_some _ q) (Nat.le_refl _) ?_, rfl, q2 hne hk _ (I.hok.fresh (Nat.le_refl _))⟩
      exact ⟨Nat.zero_le _, [], .nil, IsTup.new _ _⟩
/-- int * int, list * int, tuple * int -/
def mul3 (d e : D) : Option D := match d, e with
  | .tup xs, .int k => if -(2 ^ 62) ≤ k ∧ k ≤ 1000 ∧ xs.length ≤ 1000 then some (.tup (repL xs k)) else none
  | d, e => mulD d e
def rMul3 (K : PySem.W.Frag) : R2 := fun x y H Q => rMul2 x y H Q ∨ rRepAny K x y H Q
theorem op_mul3 {X : Cx} : OpR X (binaryOp .Mult) (rMul3 X.K) := op_mul2.or op_repAny
theorem o_mul3 {X : Cx} : OpE X mul3 (rMul3 X.K) := by
  intro B W M H ρ σ d e z x y Q rp hx hy hf h
  unfold mul3 at hf
  split at hf
  · split at hf
    · rename_i xs k hc
      cases hf
      obtain ⟨a, vs, rfl, l, h1, h2⟩ := rq_tup hx
      obtain rfl := rq_int hy
      have hl := h2.length
      refine .inr ⟨a, k, vs, rfl, rfl, h1, hc.1, hc.2.1, by omega, fun c => ?_, fun hne hk p hp => ?_, fun hne hk p hp => ?_⟩
      · have e : repL xs k = xs := by
          rcases c with c | c
          · have : xs = [] := List.eq_nil_of_length_eq_zero (by rw [hl, c]; rfl)
            subst this
            show (List.replicate k.toNat ([] : List D)).flatten = []
            generalize k.toNat = n
            induction n with
            | zero => rfl
            | succ n ih => rw [List.replicate_succ, List.flatten_cons, ih]; rfl
          · subst c
            show (List.replicate 1 xs).flatten = xs
            simp
        rw [e] at h
        exact post_v h rp (.tup l h1 h2)
      · have e : repL xs k = [] := by
          show (List.replicate k.toNat xs).flatten = []
          rw [show k.toNat = 0 by omega]
          rfl
        rw [e] at h
        exact post_t h rp .nil (Nat.zero_le _) hp
      · refine post_t h rp (h2.rep k.toNat) ?_ hp
        rw [repL_length, sizeLine_eq]
        have : xs.length * k.toNat ≤ 1000 * 1000 := Nat.mul_le_mul hc.2.2 (by omega)
        omega
    · cases hf
  · exact .inl (o_mul B W M H ρ σ _ _ z x y Q rp hx hy hf h)
end NV

set_option Elab.async false
set_option linter.all false
set_option maxRecDepth 100000
set_option maxHeartbeats 4000000
/-! Core18: sorted(set(ints)), list.count. -/
namespace NV
open PySem PySem.Spec PyProof.Rows L2
/-! ### sorted(set(e)), e a tuple of ints -/
def insU (i : Int) : List Int → List Int
  | [] => [i]
  | j :: l => if i < j then i :: j :: l else if i = j then j :: l else j :: insU i l
def sortU (l : List Int) : List Int := l.foldr insU []
theorem insU_mem (i : Int) : ∀ (l : List Int) (k : Int), k ∈ insU i l ↔ k = i ∨ k ∈ l
  | [], k => by simp [insU]
  | j :: l, k => by
    unfold insU
    split
    · simp
    · split
      · rename_i h; subst h; simp
      · rw [List.mem_cons, insU_mem i l k, List.mem_cons]
        constructor
        · rintro (h | h | h)
          · exact .inr (.inl h)
          · exact .inl h
          · exact .inr (.inr h)
        · rintro (h | h | h)
          · exact .inr (.inl h)
          · exact .inl h
          · exact .inr (.inr h)
theorem insU_sorted (i : Int) : ∀ l : List Int, l.Pairwise (· < ·) → (insU i l).Pairwise (· < ·)
  | [], _ => List.pairwise_singleton _ _
  | j :: l, h => by
    have h1 := List.pairwise_cons.mp h
    unfold insU
    split
    · rename_i q
      refine List.pairwise_cons.mpr ⟨fun y hy => ?_, h⟩
      rcases List.mem_cons.mp hy with e | hy
      · subst e; exact q
      · exact Int.lt_trans q (h1.1 y hy)
    · split
      · exact h
      · refine List.pairwise_cons.mpr ⟨fun y hy => ?_, insU_sorted i l h1.2⟩
        rcases (insU_mem i l y).mp hy with e | hy
        · subst e; omega
        · exact h1.1 y hy
theorem sortU_mem : ∀ (l : List Int) (k : Int), k ∈ sortU l ↔ k ∈ l
  | [], k => by simp [sortU]
  | i :: l, k => by
    show k ∈ insU i (sortU l) ↔ _
    rw [insU_mem, sortU_mem l k, List.mem_cons]
theorem sortU_sorted : ∀ l : List Int, (sortU l).Pairwise (· < ·)
  | [] => .nil
  | i :: l => insU_sorted i _ (sortU_sorted l)
theorem lt_unique : ∀ {l m : List Int}, l.Pairwise (· < ·) → m.Pairwise (· < ·) → (∀ k, k ∈ l ↔ k ∈ m) → l = m
  | [], [], _, _, _ => rfl
  | [], b :: m, _, _, h => by have := (h b).mpr List.mem_cons_self; cases this
  | a :: l, [], _, _, h => by have := (h a).mp List.mem_cons_self; cases this
  | a :: l, b :: m, h1, h2, h => by
    have p1 := List.pairwise_cons.mp h1
    have p2 := List.pairwise_cons.mp h2
    have e : a = b := by
      rcases List.mem_cons.mp ((h a).mp List.mem_cons_self) with e | e
      · exact e
      · rcases List.mem_cons.mp ((h b).mpr List.mem_cons_self) with e2 | e2
        · exact e2.symm
        · have := p2.1 a e; have := p1.1 b e2; omega
    subst e
    congr 1
    refine lt_unique p1.2 p2.2 fun k => ?_
    constructor
    · intro hk
      rcases List.mem_cons.mp ((h k).mp (List.mem_cons_of_mem _ hk)) with e | e
      · subst e; have := p1.1 k hk; omega
      · exact e
    · intro hk
      rcases List.mem_cons.mp ((h k).mpr (List.mem_cons_of_mem _ hk)) with e | e
      · subst e; have := p2.1 k hk; omega
      · exact e
section
variable {X : Cx} {W : WX} {a : Expr} {p p2 q pos apos cpos : Pos}
theorem sortU_len (l : List Int) : (sortU l).length ≤ l.length := by
  have ins : ∀ (i : Int) (l : List Int), (insU i l).length ≤ l.length + 1 := by
    intro i l
    induction l with
    | nil => simp [insU]
    | cons j l ih =>
      unfold insU
      split
      · simp
      · split
        · simp
        · simp only [List.length_cons]; omega
  induction l with
  | nil => simp [sortU]
  | cons i l ih =>
    have := ins i (sortU l)
    show (insU i (sortU l)).length ≤ _
    rw [List.length_cons]
    omega
/-! ### xs.count(y) -/
variable {b : Expr} {apos : Pos}
def countD (d e : D) : Option D := match d with
  | .lst ds => if okL 60 ds = true ∧ okD 60 e = true then some (.int ((ds.countP fun z => eqD z e : Nat) : Int)) else none
  | _ => none
def rCountL (K : PySem.W.Frag) : V → List V → Hp → VK → Prop := fun x xs H Q => ∃ (p : Addr) (vs : List V) (y : V) (ds : List PyData) (d : PyData), x = .ref p ∧ xs = [y] ∧ SqL K H p vs ∧ DpAll K H vs ds ∧ Dp K H y d ∧ PyData.canLayAll0 ds = true ∧ d.canLay0 = true ∧ d.depth ≤ 60 ∧ Q (.int ((ds.countP fun z => PyData.eqv z d : Nat) : Int)) H
theorem mt_count (hu0 : X.A.units + 64 < cLine) : MtR X "list.count" (rCountL X.K) := by
  intro pins s σ H x xs v us Q I rx rs h
  obtain ⟨p, vs, y, ds, d, rfl, rfl, hq, dl, dy, c1, c2, hd, q⟩ := h
  cases rx
  obtain ⟨u, rfl, ry⟩ := rs.one
  obtain ⟨its, r, pl, hz⟩ := I.list hq
  obtain ⟨as, r1⟩ := Dp.readsAll I ds vs its dl r
  obtain ⟨bs, r2⟩ := Dp.reads I d y u dy ry
  have hu : X.A.units + 1 + min (PyData.depthAll ds) d.depth < cLine := by
    have := hu0
    have h2 : min (PyData.depthAll ds) d.depth ≤ d.depth := Nat.min_le_right _ _
    omega
  exact SeqAt.count_list_data pl.isList r1 r2 (PyData.plainAll_of_canLay0 ds c1) (PyData.plain_of_canLay0 d c2) hu ⟨.int _, H, I.tok _, ⟨_, rfl⟩, q⟩
def eCount (ma mb : RM) : EM := fun ρ => (ma ρ).bind fun x ρ1 => (ofO (x.get ρ1) ρ1).bind fun d0 _ => if isLst d0 then (mb ρ1).bind fun y ρ2 => (ofO (x.get ρ2) ρ2).bind fun d _ => (ofO (y.get ρ2) ρ2).bind fun e _ => ofO (countD d e) ρ2 else .bad
theorem countP_py (d : D) (ds : List D) : ((toPyL ds).countP fun z => PyData.eqv z (toPy d)) = ds.countP fun z => eqD z d := by
  rw [toPyL_map, List.countP_map]
  rfl
theorem de_count {ma mb : RM} (hu0 : X.A.units + 64 < cLine) (ha : DR X W a ma) (hb : DR X W b mb)
    (hbase : attributeBase a "count" X.env (eval a X.env) = eval a X.env := by rfl)
    (hfew : ((backTo pos (starEach [b] X.env)).all (fun x => !x.1) && (backToKw pos (keywordEach [] X.env)).all (fun x => x.1.isSome)
      && decide (([b] : List Expr).length + ([] : List Keyword).length + (if ([] : List Keyword).isEmpty then 0 else 1) < 30)) = true := by rfl)
    (hline : (apos.endLine == pos.line) = true := by rfl) (hs : starEach [b] X.env = (false, eval b X.env) :: starEach [] X.env := by rfl) (hplain : (backTo pos (starEach ([] : List Expr) X.env)).any (·.1) = false := by rfl) :
    DE X W (.Call (.Attribute a "count" apos) [b] [] pos) (eCount ma mb) := by
  obtain ⟨ta, pa, sa⟩ := ha
  obtain ⟨tb, pb, sb⟩ := hb
  refine ⟨_, pe_bm PySem.F.plainAttrs_list PySem.F.slot_list_count PySem.F.type_list_count (mt_count hu0) pa (pa_cons pb pa_nil hs) hbase hfew hline hs hplain, fun B M H ρ σ Q rp k => ?_⟩
  refine sa B M H ρ σ _ rp (Post.seq k fun x ρ1 M1 H1 v x1 r1 q1 k1 => ?_)
  cases e0 : x.get ρ1 with
  | none => rw [e0] at k1; exact k1.elim
  | some d0 =>
    rw [e0] at k1
    cases d0 with
    | lst ds0 =>
      simp only [ofO, Res.bind, isLst] at k1
      obtain ⟨a0, vs0, rfl, _, hH, _⟩ := rq_lst (q1.rq Ext.refl r1 e0)
      refine ⟨.inl ⟨rfl, _, SqL.of hH⟩, ?_⟩
      refine sb B M1 H1 ρ1 σ _ r1 (Post.seq k1 fun y ρ2 M2 H2 w x2 r2 q2 k2 => ?_)
      cases ex : x.get ρ2 with
      | none => rw [ex] at k2; exact k2.elim
      | some d =>
        rw [ex] at k2
        cases ey : y.get ρ2 with
        | none => rw [ey] at k2; exact k2.elim
        | some e =>
          rw [ey] at k2
          simp only [ofO, Res.bind] at k2
          cases d with
          | lst ds =>
            by_cases hc : okL 60 ds = true ∧ okD 60 e = true
            · simp only [countD, if_pos hc] at k2
              obtain ⟨a1, vs1, e1, _, hH1, rl⟩ := rq_lst (q1.rq x2 r2 ex)
              obtain ⟨dl, c1⟩ := rl.dp 60 hc.1
              obtain ⟨dy, c2⟩ := (q2.rq Ext.refl r2 ey).dp hc.2
              refine ⟨a1, vs1, w, _, _, e1, rfl, SqL.of hH1, dl, dy, c1, c2, okD.depth 60 e hc.2, ?_⟩
              rw [countP_py]
              exact post_v k2 r2 (.int _)
            · simp only [countD, if_neg hc] at k2
              exact k2.elim
          | _ => exact k2.elim
    | _ => simp only [ofO, Res.bind, isLst] at k1; exact k1.elim
end
end NV

set_option Elab.async false
set_option linter.all false
set_option maxRecDepth 100000
set_option maxHeartbeats 4000000
/-! Core19: exceptions of own classes: raised, caught, asked of their class. -/
namespace NV
open PySem PySem.Spec PyProof.Rows L2

/-! ### an exception's object, tracked -/
section
variable {X : Cx} {pins : List (Addr × Obj)} {σ : L2.St} {H : Hp} {s : Shared} {a C : Addr} {oe : Obj} {vs : Array Value}
theorem exoT_ok {P : Program} {w : World} {h : Heap} {H : Hp} (he : h.get? a = some oe) (hz : Zc (.ref C) none oe) (hd : oe.data = .fields vs) : ObjOk P w H h a (exoT a C) :=
  ⟨⟨oe, vs, he, hz, hd⟩, ⟨oe, he⟩, fun h1 h2 z k => by
    obtain ⟨o, v, e, z1, z2⟩ := z
    exact ⟨o, v, k _ e, z1, z2⟩⟩
/-- .. with or without a dict -/
def exoX (a C : Addr) : Option Addr → HO
  | none => exoT a C
  | some d => exoD a C d
theorem exoX_ok {P : Program} {w : World} {h : Heap} {H : Hp} {dx : Option Addr} (he : h.get? a = some oe) (hz : Zc (.ref C) dx oe) (hd : oe.data = .fields vs) : ObjOk P w H h a (exoX a C dx) := by
  cases dx with
  | none => exact exoT_ok he hz hd
  | some d =>
    exact ⟨⟨oe, vs, he, hz, hd⟩, ⟨oe, he⟩, fun h1 h2 z k => by
      obtain ⟨o, v, e, z1, z2⟩ := z
      exact ⟨o, v, k _ e, z1, z2⟩⟩
theorem exoX_at {P : Program} {w : World} {h : Heap} {H : Hp} {dx : Option Addr} (hok : HOk P w H h) (e : H a = some (exoX a C dx)) : ∃ oe vs, h.get? a = some oe ∧ Zc (.ref C) dx oe ∧ oe.data = .fields vs := by
  cases dx with
  | none =>
    have x : ObjOk P w H h a (.ext fun h => ∃ oe vs, h.get? a = some oe ∧ Zc (.ref C) none oe ∧ oe.data = .fields vs) := hok a _ e
    exact x.1
  | some d =>
    have x : ObjOk P w H h a (.ext fun h => ∃ oe vs, h.get? a = some oe ∧ Zc (.ref C) (some d) oe ∧ oe.data = .fields vs) := hok a _ e
    exact x.1
theorem Inv.trackX {dx : Option Addr} (I : Inv X pins σ H s) (he : s.heap.get? a = some oe) (hz : Zc (.ref C) dx oe) (hd : oe.data = .fields vs) (na : H a = none) (nL : a ≠ X.env.locals) (hnew : X.s_0.heap.get? a = none) (np : ∀ p ∈ X.pn ++ pins, p.1 ≠ a) :
    Inv X pins σ (upd H a (exoX a C dx)) s := by
  have ne : ∀ {b u}, H b = some u → b ≠ a := fun e z => by rw [z, na] at e; cases e
  refine ⟨I.ok, I.os, I.bare, ⟨I.base.keep, I.base.slot, fun b o e n hx => ?_, I.base.there, fun b xs e => ?_, fun b o u e => ?_, fun b ps e => ?_⟩, I.loc, I.cell, ?_, fun x c e => ?_, fun p hp => ?_, fun b u e => ?_, I.len⟩
  · rw [upd_ne (fun z => by rw [z, hnew] at e; cases e)]
    exact I.base.free b o e n hx
  · have q := I.base.tups b xs e
    rw [upd_ne (ne q)]; exact q
  · have q := I.base.frzs b o u e
    rw [upd_ne (ne q)]; exact q
  · obtain ⟨m, q⟩ := I.base.tbls b ps e
    exact ⟨m, by rw [upd_ne (ne q)]; exact q⟩
  · rw [upd_ne (Ne.symm nL)]; exact I.free
  · obtain ⟨v, o, ho, hc⟩ := I.cell x c e
    have nc : c ≠ a := fun z => by
      rw [z, he] at ho
      cases ho
      rw [hd] at hc
      cases hc
    rw [upd_ne nc]; exact I.freeC x c e
  · obtain ⟨q1, q2, q3⟩ := I.pin p hp
    exact ⟨q1, by rw [upd_ne (np p hp)]; exact q2, q3⟩
  · by_cases hb : b = a
    · subst hb
      rw [upd_same] at e
      cases e
      exact exoX_ok he hz hd
    · rw [upd_ne hb] at e
      exact (I.hok b u e).stay (fun _ _ _ q => q) (fun c q => by rw [upd_ne (ne q)]; exact q) fun c xs q => by rw [upd_ne (ne q)]; exact q
/-- in an except suite, nothing pinned for it -/
theorem Inv.inSuite (I : Inv X pins σ H s) (a : Addr) : Inv (X.suite a (X.pn ++ pins)) [] σ H s :=
  ⟨I.ok.suite _ _, I.os, I.bare, I.base, I.loc, I.cell, I.free, I.freeC, fun p hp => I.pin p (by rw [List.append_nil] at hp; exact hp), I.hok, I.len⟩
theorem Inv.outSuite (I : Inv (X.suite a (X.pn ++ pins)) [] σ H s) (ok : X.Ok) : Inv X pins σ H s :=
  ⟨ok, I.os, I.bare, I.base, I.loc, I.cell, I.free, I.freeC, fun p hp => I.pin p (by rw [List.append_nil]; exact hp), I.hok, I.len⟩
end

/-! ### try: .. except T as e: .., the exception tracked -/
def dOff (i : Nat) (D : Ends) : Ends := { nx := fun σ H => D.nx (σ.set i none) H, rt := D.rt, bk := fun σ H => D.bk (σ.set i none) H, ct := fun σ H => D.ct (σ.set i none) H }
def wTr (K : PySem.W.Frag) (c : Value) (i : Nat) (ts : TS) (D : Ends) : WX := fun cls d σ H => PySem.W.exmOne K cls c = some true ∧ ∃ C, cls = .ref C ∧
  ∀ a, H a = none → ts (dOff i D) (σ.set i (some (.ref a))) (upd H a (exoX a C d))
section
variable {X : Cx} {x n : Str} {c : Value} {i : Nat} {body suite : List Stmt} {b0 : Stmt} {np pos pos2 : Pos} {tb : WX → TS} {ts : TS}
theorem ps_tryX (hs : X.stack = X.env :: X.outer) (hf : X.env.frame = some X.env.locals) (hN : X.N.Nodup) (hi : X.N[i]? = some n) (hln : X.env.kindOf n = some .local) (hc : Names X x c) (hx : X.ex = [])
    (hb : ∀ (W : WX) (pn : List (Addr × Obj)) (xe : Value → Shared → Prop), Takes (X.tr pn xe) W → PassesOwn (model X.prog X.w) X.A X.env xe → PSs (X.tr pn xe) body (tb W))
    (hsu : ∀ (a : Addr) (pn : List (Addr × Obj)), PSs (X.suite a pn) (b0 :: suite) ts) :
    PS X (.Try body [.ExceptHandler (some (.Name x np)) (some n) (b0 :: suite) pos2] [] [] pos) (fun D σ H => tb (wTr X.K c i ts D) D σ H) := by
  refine ⟨fun pins s0 σ0 H0 D I0 wish => ?_⟩
  have okX := I0.ok
  have frames : X.A.frames = some (X.env :: X.outer) := okX.frames.trans (congrArg some hs)
  have caught : ∀ (u : Value) (st : Shared), XE (X.tr (X.pn ++ pins) (fun e s1 => wpAny (model X.prog X.w) X.A (noteFrame e X.env) (fun _ s2 => wpAny (model X.prog X.w) X.A (setFlight e none) (fun _ s3 =>
      wpAny (model X.prog X.w) X.A (handleBy e X.env [.ExceptHandler (some (.Name x np)) (some n) (b0 :: suite) pos2]) (SP X pins D) X.xe s3) X.xe s2) X.xe s1)) (wTr X.K c i ts D) u st →
      wpAny (model X.prog X.w) X.A (noteFrame u X.env) (fun _ s2 => wpAny (model X.prog X.w) X.A (setFlight u none) (fun _ s3 =>
        wpAny (model X.prog X.w) X.A (handleBy u X.env [.ExceptHandler (some (.Name x np)) (some n) (b0 :: suite) pos2]) (SP X pins D) X.xe s3) X.xe s2) X.xe st := by
    intro u st inAir
    obtain ⟨a, G, sG, pins1, σ1, H1, cls, dx, eu, J0, ground, up, air, na, eos, bare, hex, C, ecls, wants⟩ := inAir
    subst eu ecls
    have J1 : Inv X pins σ1 H1 sG := J0.ofTry okX
    have air2 : Sky G (X.env :: X.outer) a (Zc (.ref C) dx) X.env.locals st.heap := hs ▸ air
    refine Sky.land Zc.steady frames hf air2 fun g1 fly up1 => ?_
    have J2 : Inv X pins σ1 H1 { st with heap := g1 } := J1.landed ground fly.1 (up.trans up1) eos bare
    obtain ⟨o1, v1, e1, z1, d1⟩ := fly.there
    have offFrames : a ∉ frs (X.env :: X.outer) := fun hm => by
      obtain ⟨_, o2, e2, noFields⟩ := fly.2.2.1.mem hm
      have eo : o1 = o2 := Option.some.inj (e1.symm.trans e2)
      exact noFields v1 (eo ▸ d1)
    have offLocals : a ≠ X.env.locals := fun z => offFrames (List.mem_filterMap.mpr ⟨X.env, List.mem_cons_self, by rw [hf, z]⟩)
    have inG : ∀ b o, sG.heap.get? b = some o → b ∉ frs X.stack → b ≠ a := fun b o eb nb z => by
      have q := ground b o eb nb
      rw [z, fly.2.1] at q
      cases q
    have isNew : X.s_0.heap.get? a = none := by
      cases q : X.s_0.heap.get? a with
      | none => rfl
      | some o =>
        obtain ⟨o2, q2⟩ := J1.base.there a o q (by rw [hx]; simp)
        exact absurd rfl (inG a o2 q2 (hs ▸ offFrames))
    have noPin : ∀ p ∈ X.pn ++ pins, p.1 ≠ a := fun p hp => by
      obtain ⟨q1, _, q3, q4, _⟩ := J1.pin p hp
      refine inG p.1 p.2 q1 fun hm => ?_
      rcases List.mem_cons.mp (J1.stkSub p.1 hm) with z | z
      · exact q3 z
      · exact q4 z
    have isType : PySem.W.Looks (model X.prog X.w) g1 (typeOf (.ref a)) (.ref C) := fun A Q E sA keepA q => wpAny_typeOf_ref (keepA _ _ e1) (by rw [z1.1]; exact q)
    have matchIt := PySem.W.exm_one (M := model X.prog X.w) J2.kIn isType hex
    refine wpAny_handleBy_cons (codeAny_handlers_test ?_) (by intro q; cases q)
    have S1 := Inv.inSuite J2 a
    have evalT : ∀ {Q : Value → Shared → Prop} {E : Value → Shared → Prop}, Q c { st with heap := g1 } → wpAny (model X.prog X.w) (X.A.mark (some (.ref a))) (eval (.Name x np) X.env) Q E { st with heap := g1 } := fun {Q E} q => by
      obtain ⟨isG, notD, h1 | ⟨h1, h2, h3⟩⟩ := hc
      · exact ld_glob (X := X.suite a (X.pn ++ pins)) S1 isG h1 q notD
      · exact ld_blt (X := X.suite a (X.pn ++ pins)) S1 isG h1 h2 q h3 notD
    refine evalT (matchIt.here (codeAny_handlers_suite_as (HandSPX.lands_againZ fly fun g2 fly2 up2 => ?_)))
    have J3 : Inv X pins σ1 H1 { st with heap := g2 } := J1.landed ground fly2.1 ((up.trans up1).trans up2) eos bare
    obtain ⟨o2, v2, e2, z2, d2⟩ := fly2.there
    have T := Inv.inSuite (Inv.trackX J3 e2 z2 d2 na offLocals isNew noPin) a
    refine store_ok (X := X.suite a (X.pn ++ pins)) (v := .ref a) T hN hi (.inl hln) rfl (fun s5 T5 => ?_) (.inr hln)
    refine wpAny_mono ((hsu a (X.pn ++ pins)).run [] s5 _ _ _ T5 (wants a na)) (fun fl s6 endS => ?_) (fun _ _ z => z.elim)
    have off : ∀ {σ6 : L2.St} {H6 : Hp} {Q : Shared → Prop}, Inv (X.suite a (X.pn ++ pins)) [] σ6 H6 s6 → (∀ s7, Inv X pins (σ6.set i none) H6 s7 → Q s7) →
        wpAny (model X.prog X.w) X.A (do bindName X.env n .none; unbindBehindTheSuite X.env n pos2) (fun _ s7 => Q s7) X.xe s6 := fun {σ6 H6 Q} T6 hq => gone_ok (Inv.outSuite T6 okX) hN hi hln hq
    cases fl with
    | next => obtain ⟨_, _, T6, w6⟩ := endS; exact off T6 fun _ J7 => ⟨_, _, J7, w6⟩
    | brk => obtain ⟨_, _, T6, w6⟩ := endS; exact off T6 fun _ J7 => ⟨_, _, J7, w6⟩
    | cont => obtain ⟨_, _, T6, w6⟩ := endS; exact off T6 fun _ J7 => ⟨_, _, J7, w6⟩
    | ret v => obtain ⟨_, _, _, T6, r6, w6⟩ := endS; exact off T6 fun _ J7 => ⟨_, _, _, J7, r6, w6⟩
  refine wpAny_Try_except (wpAny_mono ((hb _ (X.pn ++ pins) _ caught PassesOwn.looking).run [] s0 σ0 H0 D (I0.toTry _) wish) (fun fl s1 endB => ?_) (fun _ _ z => z))
  cases fl with
  | next => obtain ⟨_, _, J, w1⟩ := endB; exact wpAny_execs_nil ⟨_, _, J.ofTry okX, w1⟩
  | brk => obtain ⟨_, _, J, w1⟩ := endB; exact ⟨_, _, J.ofTry okX, w1⟩
  | cont => obtain ⟨_, _, J, w1⟩ := endB; exact ⟨_, _, J.ofTry okX, w1⟩
  | ret v => obtain ⟨_, _, _, J, r1, w1⟩ := endB; exact ⟨_, _, _, J.ofTry okX, r1, w1⟩
end
end NV

set_option Elab.async false
set_option linter.all false
set_option maxRecDepth 100000
set_option maxHeartbeats 4000000
/-! Core20: raise, a def called within an except suite, isinstance of an exception, list.index, operators that need no calm. -/
namespace NV
open PySem PySem.Spec PyProof.Rows L2

/-! ### raise X('..') -/
structure ExnC (K : PySem.W.Frag) (mg : Str → Option Value) (x : Str) : Prop where
  g : mg x = some (.ref (He.ga K x))
  ex : PySem.W.excIn K (He.ga K x) He.veBase "ValueError.__new__" = true
  k : PySem.W.keepIn K (.ref (He.ga K x)) = true
  b : PySem.W.subIn K (.ref (He.ga K x)) (.type "BaseException") = some true
  t : PySem.W.typeIn K (.ref (He.ga K x)) = some (.type "type")
  q : ExcC K (He.ga K x)
theorem excB_ok {x : Str} {K : PySem.W.Frag} (h : excB x K = true) : ExcC K (He.ga K x) := by
  obtain ⟨c1, h⟩ := He.ba h
  obtain ⟨c2, h⟩ := He.ba h
  obtain ⟨c3, h⟩ := He.ba h
  obtain ⟨c4, h⟩ := He.ba h
  obtain ⟨c5, h⟩ := He.ba h
  obtain ⟨c6, h⟩ := He.ba h
  obtain ⟨c7, c8⟩ := He.ba h
  exact ⟨of_decide_eq_true c1, of_decide_eq_true c2, of_decide_eq_true c3, c4, of_decide_eq_true c5, of_decide_eq_true c6, of_decide_eq_true c7, of_decide_eq_true c8⟩
theorem exnC_of {K : PySem.W.Frag} {h : Heap} {mg : Str → Option Value} {x : Str} (X : K.In h) (G : h.Ns mainGlobals mg) (c1 : (He.Fa.glo x).ok K = true) (c2 : (He.Fa.exc x).ok K = true) (c3 : excB x K = true) : ExnC K mg x := by
  obtain ⟨e1, e2, e3, e4⟩ := He.exc_ok c2
  exact ⟨He.glo_ok X G c1, e1, e2, e3, e4, excB_ok c3⟩

def sRaise (x : Str) : SM := fun ρ => .exc ⟨x, []⟩ ρ
section
variable {X : Cx} {W : WX} {x m : Str} {j : Nat} {p p1 p2 pos pos2 apos cpos : Pos} {e a b : Expr} {es : List Expr}
theorem ds_raise (c : Cd X) (tk : Takes X W) (h : ExnC X.K X.mg x) (hg : Gl X x) (hdb : (x == ("__debug__" : Str)) = false := by decide) :
    DS X W (.Raise (some (.Call (.Name x p) [.Constant (.str m) j p2] [] pos)) none pos2) (sRaise x) :=
  ⟨_, ps_raise c.calm tk (pmk_own PySem.F.excBase_ValueError h.ex h.g h.k (raises_own h.b h.t) hg hdb), fun B M H ρ σ E r k => k M H σ _ none Ext.refl r ⟨He.ga X.K x, h.g, rfl, rfl⟩⟩

/-! ### isinstance(e, T) -/
/-! ### operators where an exception may be handled -/
def ixH (d e : D) : Option D := match d with
  | .lst xs => (match e with
    | .int i => atI xs i
    | _ => none)
  | .tup xs => (match e with
    | .int i => atI xs i
    | _ => none)
  | _ => none
theorem o_ixH : OpE X ixH (rIx X.K) := by
  intro B W M H ρ σ d e z x y Q rp hx hy hf h
  cases d with
  | lst xs =>
    cases e with
    | int i =>
      obtain ⟨a, vs, e1, _, t, r⟩ := rq_lst hx
      obtain ⟨v, q, r'⟩ := r.atI hf
      exact .inl ⟨a, vs, _, v, e1, rq_int hy, SqL.of t, q, post_v h rp r'⟩
    | _ => cases hf
  | tup xs =>
    cases e with
    | int i =>
      obtain ⟨a, vs, e1, _, t, r⟩ := rq_tup hx
      obtain ⟨v, q, r'⟩ := r.atI hf
      exact .inr (.inl ⟨a, vs, _, v, e1, rq_int hy, t, q, post_v h rp r'⟩)
    | _ => cases hf
  | _ => cases hf
theorem de_ixH {ma mb : RM} (ha : DR X W a ma) (hb : DR X W b mb) (hs : PlainIx b := by exact fun _ _ => rfl) : DE X W (.Subscript a b pos) (eOp2 ixH ma mb) := by
  obtain ⟨ta, pa, sa⟩ := ha
  obtain ⟨tb, pb, sb⟩ := hb
  exact ⟨_, pe_ix ix_seq pa pb hs, op2_sat sa sb fun B M H ρ σ d e z x y Q h1 h2 h3 h4 h5 => o_ixH B W M H ρ σ d e z x y Q h1 h2 h3 h4 h5⟩
/-! ### xs.index(y), of truths -/
end
end NV

set_option Elab.async false
set_option linter.all false
set_option maxRecDepth 100000
set_option maxHeartbeats 4000000
/-! Core21: defs that may be called while an exception is handled; try as a statement of environments. -/
namespace NV
open PySem PySem.Spec PyProof.Rows L2

section
variable {X : Cx} {CX : CXT} {k : Nat} {f : Addr} {fd : FuncData} {ps : List Str} {sp : Sp} {E : L2.St → XK} {x : Str} {p pos : Pos} {e : Expr} {es : List Expr} {t : TA}
end
def HasT (P : Program) (w : World) (K : PySem.W.Frag) (mg : Str → Option Value) (base : Heap) (k : Nat) (x : Str) (fl : List Bool) (F : List D → FRes) : Prop :=
  ∃ (f : Addr) (fd : FuncData) (ps : List Str), FnT P w K mg base (L2.CX P w) k f fd ps (spF K mg fl F) ∧ mg x = some (.ref f) ∧ PySem.W.keepIn K (.ref f) = true ∧ Binds K fd ps []
abbrev WN : WX := fun _ _ _ _ => False
section
variable {X : Cx} {W : WX} {k n : Nat} {x : Str} {p pos : Pos} {e : Expr} {es : List Expr} {fl : List Bool} {F : List D → FRes} {ma : AM}
end
theorem HasT.has {P : Program} {w : World} {K : PySem.W.Frag} {mg : Str → Option Value} {base : Heap} {k : Nat} {x : Str} {fl : List Bool} {F : List D → FRes} (h : HasT P w K mg base k x fl F) : Has P w K mg base k x fl F := by
  obtain ⟨f, fd, ps, h1, h2⟩ := h
  exact ⟨f, fd, ps, h1.fn, h2⟩

/-! ### try -/
def clrO (i : Nat) : Out → Out
  | .nx ρ => .nx (ρ.set i .no)
  | .rt d ρ => .rt d (ρ.set i .no)
  | .bk ρ => .bk (ρ.set i .no)
  | .ct ρ => .ct (ρ.set i .no)
  | _ => .bad
def sTry (cs : List Str) (i : Nat) (mb ms : SM) : SM := fun ρ => match mb ρ with
  | .exc x ρ1 => (match x.fs with
    | [] => if cs.contains x.cls then clrO i (ms (ρ1.set i (.v (.exn x.cls [])))) else .bad
    | [d] => if cs.contains x.cls then clrO i (ms (ρ1.set i (.v (.exn x.cls [d])))) else .bad
    | _ => .bad)
  | o => o
section
variable {X : Cx} {W : WX} {x n : Str} {c : Value} {i : Nat} {body suite : List Stmt} {b0 : Stmt} {np pos pos2 : Pos} {mb ms : SM} {cs : List Str}
theorem ds_try (hs : X.stack = X.env :: X.outer) (hf : X.env.frame = some X.env.locals) (hN : X.N.Nodup) (hi : X.N[i]? = some n) (hln : X.env.kindOf n = some .local) (hc : Names X x c) (hx : X.ex = [])
    (hcs : ∀ y ∈ cs, X.mg y = some (.ref (He.ga X.K y)) ∧ PySem.W.exmOne X.K (.ref (He.ga X.K y)) c = some true)
    (hb : ∀ (W1 : WX) (pn : List (Addr × Obj)) (xe : Value → Shared → Prop), Takes (X.tr pn xe) W1 → PassesOwn (model X.prog X.w) X.A X.env xe → DSs (X.tr pn xe) W1 body mb)
    (hsu : ∀ (a : Addr) (pn : List (Addr × Obj)), DSs (X.suite a pn) WN (b0 :: suite) ms) :
    DS X W (.Try body [.ExceptHandler (some (.Name x np)) (some n) (b0 :: suite) pos2] [] [] pos) (sTry cs i mb ms) := by
  let ts : TS := fun D σ H => ∀ (a : Addr) (pn : List (Addr × Obj)), ∃ t, PSs (X.suite a pn) (b0 :: suite) t ∧ SatS (X.suite a pn) WN t ms ∧ t D σ H
  have pts : ∀ (a : Addr) (pn : List (Addr × Obj)), PSs (X.suite a pn) (b0 :: suite) ts := fun a pn => ⟨fun pins s σ H D I h => by
    obtain ⟨t, pt, _, ht⟩ := h a pn
    exact pt.run pins s σ H D I ht⟩
  let tb : WX → TS := fun W1 D σ H => ∀ (pn : List (Addr × Obj)) (xe : Value → Shared → Prop), Takes (X.tr pn xe) W1 → PassesOwn (model X.prog X.w) X.A X.env xe → ∃ t, PSs (X.tr pn xe) body t ∧ SatS (X.tr pn xe) W1 t mb ∧ t D σ H
  have ptb : ∀ (W1 : WX) (pn : List (Addr × Obj)) (xe : Value → Shared → Prop), Takes (X.tr pn xe) W1 → PassesOwn (model X.prog X.w) X.A X.env xe → PSs (X.tr pn xe) body (tb W1) := fun W1 pn xe tk po => ⟨fun pins s σ H D I h => by
    obtain ⟨t, pt, _, ht⟩ := h pn xe tk po
    exact pt.run pins s σ H D I ht⟩
  refine ⟨_, ps_tryX hs hf hN hi hln hc hx ptb pts, fun B M H ρ σ E r h => ?_⟩
  intro pn xe tk po
  obtain ⟨t, pt, sat⟩ := hb _ pn xe tk po
  refine ⟨t, pt, sat, sat B M H ρ σ E r ?_⟩
  unfold sTry at h
  cases em : mb ρ with
  | exc xx ρ1 =>
    simp only [em] at h
    obtain ⟨cl, fs⟩ := xx
    -- both ways: the exception stands tracked in slot i
    have both : ∀ (fs : List D), (∀ M H c dx, ExR X.K X.mg M H ⟨cl, fs⟩ c dx → ¬ (fs = [] ∧ dx ≠ none)) → PostS X B W M H (if cs.contains cl then clrO i (ms (ρ1.set i (.v (.exn cl fs)))) else .bad) E →
        (∀ (M1 : Addr → Prop) (H1 : Hp) (σ1 : St) (dx : Option Addr) (a : Addr), Rep X.K B M1 H1 ρ1 σ1 → ExR X.K X.mg M1 H1 ⟨cl, fs⟩ (.ref (He.ga X.K cl)) dx → H1 a = none → Rp X.K M1 (upd H1 a (exoX a (He.ga X.K cl) dx)) (.exn cl fs) (.ref a)) →
        ∀ (M1 : Addr → Prop) (H1 : Hp) (σ1 : St) (cv : Value) (dx : Option Addr), Ext M H M1 H1 → Rep X.K B M1 H1 ρ1 σ1 → ExR X.K X.mg M1 H1 ⟨cl, fs⟩ cv dx → wTr X.K c i ts E cv dx σ1 H1 := by
      intro fs _ h mk
      split at h
      · rename_i hin
        intro M1 H1 σ1 cv dx x1 r1 q1
        have q0 := q1
        obtain ⟨C, g1, rfl, g3⟩ := q1
        obtain ⟨k1, k2⟩ := hcs cl (List.contains_iff_mem.mp hin)
        have eC : C = He.ga X.K cl := by
          have g1 : X.mg cl = some (Value.ref C) := g1
          rw [k1] at g1
          exact (Value.ref.inj (Option.some.inj g1)).symm
        subst eC
        refine ⟨k2, _, rfl, fun a na a2 pn2 => ?_⟩
        obtain ⟨t2, pt2, sat2⟩ := hsu a2 pn2
        have rT : Rep X.K B M1 (upd H1 a (exoX a (He.ga X.K cl) dx)) (ρ1.set i (.v (.exn cl fs))) (σ1.set i (some (.ref a))) := (r1.alloc na).setV i (mk M1 H1 σ1 dx a r1 q0 na)
        refine ⟨t2, pt2, sat2, sat2 B M1 _ _ _ _ rT ?_⟩
        have x2 : Ext M H M1 (upd H1 a (exoX a (He.ga X.K cl) dx)) := x1.trans (Ext.new na)
        have h2 := PostS.shift x2 h
        cases eo : ms (ρ1.set i (.v (.exn cl fs))) with
        | nx ρ2 => rw [eo] at h2; exact fun M2 H2 σ2 x3 r3 => h2 M2 H2 _ x3 (r3.setNo i none)
        | rt d ρ2 => rw [eo] at h2; exact fun M2 H2 σ2 v x3 r3 q3 => h2 M2 H2 _ v x3 (r3.setNo i none) q3
        | bk ρ2 => rw [eo] at h2; exact fun M2 H2 σ2 x3 r3 => h2 M2 H2 _ x3 (r3.setNo i none)
        | ct ρ2 => rw [eo] at h2; exact fun M2 H2 σ2 x3 r3 => h2 M2 H2 _ x3 (r3.setNo i none)
        | rtF d ρ2 => rw [eo] at h2; exact h2.elim
        | exc _ _ => rw [eo] at h2; exact h2.elim
        | bad => rw [eo] at h2; exact h2.elim
      · exact h.elim
    cases fs with
    | nil =>
      refine both [] (fun M H c dx q z => ?_) h fun M1 H1 σ1 dx a r1 q na => ?_
      · obtain ⟨C, _, _, q⟩ := q
        exact z.2 q
      · obtain ⟨C, _, _, q⟩ := q
        have q : dx = none := q
        subst q
        exact .exn (fun z => r1.trk a z na) upd_same
    | cons d fs =>
      cases fs with
      | nil =>
        refine both [d] (fun M H c dx q z => by cases z.1) h fun M1 H1 σ1 dx a r1 q na => ?_
        obtain ⟨C, _, _, b, v, rfl, nb, hb, rv⟩ := q
        have ne : b ≠ a := ne_of_none hb na
        exact .exnR (fun z => r1.trk a z na) upd_same nb (by rw [upd_ne ne]; exact hb) (rv.ext (Ext.new na))
      | cons _ _ => exact h.elim
  | nx ρ1 => simp only [em] at h; exact h
  | rt d ρ1 => simp only [em] at h; exact h
  | rtF d ρ1 => simp only [em] at h; exact h
  | bk ρ1 => simp only [em] at h; exact h
  | ct ρ1 => simp only [em] at h; exact h
  | bad => simp only [em] at h; exact h
/-- the contexts of the parts -/
theorem Cd.tr {pn : List (Addr × Obj)} {xe : Value → Shared → Prop} (c : Cd X) : Cd (X.tr pn xe) := ⟨c.calm, c.units⟩
end
end NV

set_option Elab.async false
set_option linter.all false
set_option maxRecDepth 100000
set_option maxHeartbeats 4000000
/-! Core22: the facts of a law's exception classes. -/
namespace NV
open PySem PySem.Spec PyProof.Rows L2

/-- cs: what is raised; ts: what is asked about -/
structure ClsF (K : PySem.W.Frag) (mg : Str → Option Value) (cs ts : List Str) : Prop where
  te : mg "TurnError" = some (.ref (He.ga K "TurnError"))
  cls : ∀ T ∈ ts, mg T = some (.ref (He.ga K T))
  gl : ∀ c ∈ cs, mg c = some (.ref (He.ga K c))
  qe : ∀ c ∈ cs, ExcC K (He.ga K c)
  exn : ∀ c ∈ cs, (c == "NoText") = false → ExnC K mg c
  ins : ∀ c ∈ cs, ∀ T ∈ ts, PySem.W.kitOne K (.ref (He.ga K c)) (.ref (He.ga K T)) = some (c == T)
  insV : ∀ c ∈ cs, PySem.W.kitOne K (.ref (He.ga K c)) (.type "ValueError") = some true
  exm : ∀ c ∈ cs, PySem.W.exmOne K (.ref (He.ga K c)) (.ref (He.ga K "TurnError")) = some true
section
variable {K : PySem.W.Frag} {h : Heap} {mg : Str → Option Value} {cs ts : List Str}
theorem clsf_ok (X : K.In h) (G : h.Ns mainGlobals mg) (c : clsfB cs ts K = true) : ClsF K mg cs ts := by
  obtain ⟨c0, c⟩ := He.ba c
  obtain ⟨c1, c2⟩ := He.ba c
  rw [List.all_eq_true] at c1 c2
  have k := fun x hx => by
    have z := c2 x hx
    exact z
  refine ⟨He.glo_ok X G c0, fun T hT => He.glo_ok X G (c1 T hT), fun x hx => He.glo_ok X G (He.ba (k x hx)).1, fun x hx => excB_ok (He.ba (He.ba (He.ba (k x hx)).2).2).1, fun x hx ne => ?_, fun x hx T hT => ?_, fun x hx => ?_, fun x hx => ?_⟩
  · obtain ⟨d1, d⟩ := He.ba (k x hx)
    obtain ⟨d2, d⟩ := He.ba d
    obtain ⟨d3, d⟩ := He.ba d
    rw [ne, Bool.false_or] at d2
    exact exnC_of X G d1 d2 d3
  · obtain ⟨d1, d⟩ := He.ba (k x hx)
    obtain ⟨d2, d⟩ := He.ba d
    obtain ⟨d3, d⟩ := He.ba d
    obtain ⟨d4, d⟩ := He.ba d
    rw [List.all_eq_true] at d4
    exact of_decide_eq_true (d4 T hT)
  · obtain ⟨d1, d⟩ := He.ba (k x hx)
    obtain ⟨d2, d⟩ := He.ba d
    obtain ⟨d3, d⟩ := He.ba d
    obtain ⟨d4, d⟩ := He.ba d
    obtain ⟨d5, d6⟩ := He.ba d
    exact of_decide_eq_true d5
  · obtain ⟨d1, d⟩ := He.ba (k x hx)
    obtain ⟨d2, d⟩ := He.ba d
    obtain ⟨d3, d⟩ := He.ba d
    obtain ⟨d4, d⟩ := He.ba d
    obtain ⟨d5, d6⟩ := He.ba d
    exact He.exm_ok d6
end
section
variable {X : Cx} {W : WX} {p p1 p2 pos np pos2 : Pos} {x m : Str} {j : Nat} {cs ts : List Str}
theorem ds_raiseF (c : Cd X) (tk : Takes X W) (f : ClsF X.K X.mg cs ts) (hx : cs.contains x = true) (hg : Gl X x) (hdb : (x == ("__debug__" : Str)) = false := by decide) (hnt : (x == ("NoText" : Str)) = false := by decide) :
    DS X W (.Raise (some (.Call (.Name x p) [.Constant (.str m) j p2] [] pos)) none pos2) (sRaise x) := ds_raise c tk (f.exn x (List.contains_iff_mem.mp hx) hnt) hg hdb
end
end NV

set_option Elab.async false
set_option linter.all false
set_option maxRecDepth 100000
set_option maxHeartbeats 4000000
/-! Core23: enumerate over lists and tuples. -/
namespace PySem
set_option maxHeartbeats 4000000 in
theorem meets_enum1 {v : Value} {o : Obj} {HH : Heap → Prop} (B : Begins v o HH) :
    Meets (Builtin.«enumerate.__new__» ⟨[.type "enumerate", v], []⟩) (fun _ R s => HH s.heap ∧
      R (.ok (.ret (.ref (s.heap.push o).objs.size))) { s with heap := (s.heap.push o).push { cls := .type "enumerate", data := .fields #[.none, .bool false, .ref s.heap.objs.size, rawInt 0, .none, .none] } }) :=
  .of_wp fun prog w A R s hyp => by
    obtain ⟨hp, gs, dr, tk, os⟩ := s
    obtain ⟨hv, goal⟩ := hyp
    have below := sub_enumerate
    have iterV : ∀ {A' : Around} {E : Value → Shared → Prop} {Q : Value → Shared → Prop}, Q (.ref hp.objs.size) ⟨hp.push o, gs, dr, tk, os⟩ → wpAny (model prog w) A' (pyIter v) Q E ⟨hp, gs, dr, tk, os⟩ :=
      fun z => B.iter prog w _ _ ⟨hp, gs, dr, tk, os⟩ _ hv z
    wp_walk using iterV
    refine wpAny_stack_any fun _ => wpAny_pure ?_
    split
    · rename_i c _ _ _ _ _
      cases (c == Value.type "enumerate") <;> (wp_walk using iterV; exact ⟨_, rfl, goal⟩)
    · wp_walk using iterV
      exact ⟨_, rfl, goal⟩
theorem enum_made {prog : Program} {w : World} {A : Around} {E : Value → Shared → Prop} {s : Shared} {v : Value} {o : Obj} {HH : Heap → Prop} {Q : Value → Shared → Prop} (B : Begins v o HH) (hv : HH s.heap)
    (h : ∀ h', IsEnum h' (s.heap.objs.size + 1) s.heap.objs.size 0 .none → h'.get? s.heap.objs.size = some o → (∀ b ob, s.heap.get? b = some ob → h'.get? b = some ob) → Q (.ref (s.heap.objs.size + 1)) { s with heap := h' }) :
    wpAny (model prog w) A (call (.type "enumerate") [v]) Q E s := by
  have size1 : (s.heap.push o).objs.size = s.heap.objs.size + 1 := Heap.size_push ..
  apply callType_new F.called_enumerate (by decide) (F.typeCall_enumerate_1 v) (F.newCall_enumerate_1 v) (fun obj => F.args_object_init_2 obj v) F.entry_enumerate_new (meets_enum1 B)
  refine ⟨hv, ?_⟩
  show _ ∧ _
  rw [size1]
  have isE : IsEnum ((s.heap.push o).push { cls := .type "enumerate", data := .fields #[.none, .bool false, .ref s.heap.objs.size, rawInt 0, .none, .none] }) (s.heap.objs.size + 1) s.heap.objs.size 0 .none := by
    have z := Heap.get?_push_size (s.heap.push o) (o := { cls := .type "enumerate", data := .fields #[.none, .bool false, .ref s.heap.objs.size, rawInt 0, .none, .none] }) rfl
    rw [size1] at z
    exact z
  exact ⟨⟨_, isE, rfl⟩, h _ isE (Heap.get?_push_of_some _ (Heap.get?_push_size _ B.free)) fun b ob z => Heap.get?_push_of_some _ (Heap.get?_push_of_some _ z)⟩
end PySem
namespace NV
open PySem PySem.Spec PyProof.Rows L2

/-- the tuple at a, each item in a new pair -/
def IteT (K : PySem.W.Frag) (a : Addr) : It where
  go := fun i H => ∃ (xs : List V) (x : V), SqT K H a xs ∧ xs[i]? = some x
  yld := fun i H v H' => ∃ T x, v = .ref T ∧ H T = none ∧ H' = upd H T (.tup [.int (i : Nat), x]) ∧ ∀ xs, SqT K H a xs → xs[i]? = some x
  stop := fun i H => ∃ xs : List V, SqT K H a xs ∧ xs.length ≤ i
theorem turn_enumT {P : Program} {w : World} {K : PySem.W.Frag} {elts : List Expr} {kk : Nat} {tpos : Pos} (a e it : Addr) (ae : a ≠ e) (ai : a ≠ it) (ei : e ≠ it) :
    Turn P w K (.Tuple elts kk tpos) (IteT K a) [e, it] e (fun i h => (∃ old, IsEnum h e it ((i : Nat) : Int) old) ∧ h.IsTupleIter it a i) where
  mem := List.mem_cons_self ..
  obj := fun i h ⟨⟨old, isE⟩, o, ho, _, hd⟩ b hb => by
    rcases List.mem_cons.mp hb with z | hb
    · rw [z]; exact ⟨_, isE, fun _ q => nomatch q⟩
    · exact ⟨o, (List.mem_singleton.mp hb) ▸ ho, fun _ q => by rw [hd] at q; cases q⟩
  keep := fun i h h' ⟨⟨old, isE⟩, isI⟩ k => ⟨⟨old, k e (by simp) _ isE⟩, isI.at fun o q => k it (by simp) o q⟩
  item := by
    rintro X rfl rfl rfl calm i pins s σ H E I own ⟨⟨old, isE⟩, isI⟩ ⟨xs, x, seq, at_i⟩
    obtain ⟨us, vals, tupA, _⟩ := I.tuple seq
    obtain ⟨u, at_u, rel⟩ := vals.get at_i
    have ltE : e < s.heap.objs.size := Heap.lt_size isE
    have ltI : it < s.heap.objs.size := by obtain ⟨_, q, _⟩ := isI; exact Heap.lt_size q
    have D := Draws.tuple (prog := X.prog) (w := X.w) (A := X.A.in1) (I.ok.hd calm) it a ai us.toArray
    have lt_i : i < us.toArray.size := by
      have := (List.getElem?_eq_some_iff.mp at_u).1
      simpa using this
    refine wpAny_pyNext_enum_itemD D isE ⟨isI, tupA⟩ lt_i ei (by simp [ei, Ne.symm ae]) fun u2 h1 tk at_2 out st pair _ kept => ?_
    have eu : u2 = u := by
      have q : us.toArray[i]? = some u2 := at_2
      simp only [List.getElem?_toArray] at q
      rw [at_u] at q
      exact (Option.some.inj q).symm
    subst eu
    refine ⟨_, rfl, wpAny_letOwnedTupleGo_enum (s := { s with heap := h1, toks := tk + 1 }) out fun h2 isE2 same => ?_⟩
    have pair2 : h2.get? s.heap.objs.size = some { cls := .type "tuple", data := .seq #[.int i tk, u2] } := (same.2 _ (Nat.ne_of_gt ltE)).trans pair
    have ok : ObjOk X.prog X.w (upd H s.heap.objs.size (.tup [.int (i : Nat), x])) h2 s.heap.objs.size (.tup [.int (i : Nat), x]) :=
      ⟨show 2 ≤ sizeLine by decide, [.int i tk, u2], .cons ⟨_, rfl⟩ (.cons rel .nil), _, pair2, rfl, _, rfl⟩
    have I2 : Inv X pins σ (upd H s.heap.objs.size (.tup [.int (i : Nat), x])) { s with heap := h2, toks := tk + 1 } :=
      I.turnedNew (ch := [e, it]) (fun b ob hb q => by
        have nb : b ≠ e ∧ b ≠ it := by simpa using hb
        exact (same.2 b nb.1).trans (kept b ob nb.1 nb.2 q)) own (Nat.le_refl _) ok
    refine ⟨.ref s.heap.objs.size, _, I2, rfl, ⟨_, x, rfl, I.hok.fresh (Nat.le_refl _), rfl, fun ys hy => by rw [I.tuple_inj hy seq]; exact at_i⟩, ⟨⟨u2, ?_⟩, st.1.at fun o q => (same.2 it (Ne.symm ei)).trans q⟩, fun b hb => ?_⟩
    · have succ : ((i + 1 : Nat) : Int) = (i : Int) + 1 := by omega
      rw [succ]
      exact isE2
    · have lb : b < s.heap.objs.size := by
        rcases List.mem_cons.mp hb with z | hb
        · exact z ▸ ltE
        · exact (List.mem_singleton.mp hb) ▸ ltI
      rw [upd_ne (Nat.ne_of_lt lb)]
      exact (own b hb).1
  done := by
    rintro X rfl rfl rfl calm i pins s σ H E I own ⟨⟨old, isE⟩, isI⟩ ⟨xs, seq, long⟩
    obtain ⟨us, vals, tupA, _⟩ := I.tuple seq
    have len := vals.length
    obtain ⟨o0, o1, o2, o3, o4, o5⟩ := own it (by simp)
    have D := Draws.tuple (prog := X.prog) (w := X.w) (A := X.A.in1) (I.ok.hd calm) it a ai us.toArray
    have noneAt : us.toArray[i]? = none := by simp; omega
    unfold pyNext
    have ty : s.TypeIs (.ref e) "enumerate" := ⟨_, isE, rfl⟩
    refine wpAny_bind (wpAny_attempt (wpAny_callSpecial?_slot (name := Str.ofString "__next__") ty F.slot_enumerate_next (wpAny_call_entry F.slot_enumerate_next ty F.entry_enumerate_next ?_ (F.args_enumerate_next_1 _))))
    show wpAny _ _ (field (.ref e) 2 >>= _) _ _ _
    refine wpAny_bind (wpAny_field isE rfl (x := .ref it) rfl (wpAny_bind (wpAny_nextOf_tuple_end (A := X.A.in1) (I.ok.hd calm) isI tupA noneAt fun h1 ex ext isStop => ?_)))
    obtain ⟨o, ho, hc⟩ := isStop
    refine wpAny_bind (wpAny_isInstance (T := "StopIteration") (b := true) ⟨o, ho, hc⟩ isSubtype_stop (wpAny_pure ⟨rfl, ?_⟩))
    exact I.turned (t' := s.toks) (fun b o hb q => ext b o hb q) o0 o1 o3 o4 o5
  self := fun A i s Q E ⟨⟨_, isE⟩, _⟩ h => wpAny_pyIter_enum isE h
def iEnumT (K : PySem.W.Frag) (ta : TA) : TI := fun σ H R => ta σ H fun vs H1 => ∃ a xs, vs = [.ref a] ∧ ((SqL K H1 a xs ∧ R (Ite K a) H1) ∨ (SqT K H1 a xs ∧ R (IteT K a) H1))
theorem pi_enumT {X : Cx} {e : Expr} {ta : TA} {p pos tpos : Pos} {elts : List Expr} {kk : Nat} (hg : Gl X "enumerate") (hm : X.mg "enumerate" = none) (ha : PA X [e] ta) (hs : starEach [e] X.env = [(false, eval e X.env)] := by rfl) :
    PI X (.Tuple elts kk tpos) (.Call (.Name "enumerate" p) [e] [] pos) (iEnumT X.K ta) := by
  constructor
  intro pins s σ H R I wish
  refine Call_ (ld_blt I hg hm boot_enumerate (PyProof.Rows.callWith_type1 (thn (ha.run pos pins s σ H _ I wish) fun us s1 got => ?_) hs rfl))
  obtain ⟨vs, H1, I1, r1, a, xs, rfl, cases_⟩ := got
  cases r1 with
  | cons r rr =>
    cases rr
    cases r
    have fresh : ∀ {h1 : Heap}, ∀ b ∈ [s1.heap.objs.size + 1, s1.heap.objs.size], FpOk X pins H1 b := fun {h1} b hb => by
      have le : s1.heap.objs.size ≤ b := by
        rcases List.mem_cons.mp hb with z | hb
        · rw [z]; exact Nat.le_add_right _ _
        · rw [List.mem_singleton.mp hb]; exact Nat.le_refl _
      exact I1.fpOk le (I1.hok.fresh le)
    rcases cases_ with ⟨seq, q⟩ | ⟨seq, q⟩
    · obtain ⟨its, _, isL, _⟩ := I1.list seq
      refine enum_made (begins_list a its.toArray) isL.isList fun h1 isE isI kept => wpAny_pyIter_enum isE ?_
      have I2 : Inv X pins σ H1 { s1 with heap := h1 } := I1.kept (t' := s1.toks) kept
      exact ⟨_, _, _, _, H1, rfl, I2, turn_enum a (s1.heap.objs.size + 1) s1.heap.objs.size, ⟨⟨.none, isE⟩, ⟨_, isI, rfl, rfl⟩, Nat.succ_ne_self _⟩, fresh (h1 := h1), q⟩
    · obtain ⟨its, _, isT, _⟩ := I1.tuple seq
      have la : a < s1.heap.objs.size := by obtain ⟨o, ho, _⟩ := isT; exact Heap.lt_size ho
      refine enum_made (begins_tuple a its.toArray) isT fun h1 isE isI kept => wpAny_pyIter_enum isE ?_
      have I2 : Inv X pins σ H1 { s1 with heap := h1 } := I1.kept (t' := s1.toks) kept
      exact ⟨_, _, _, _, H1, rfl, I2, turn_enumT a (s1.heap.objs.size + 1) s1.heap.objs.size (Nat.ne_of_lt (Nat.lt_succ_of_lt la)) (Nat.ne_of_lt la) (Nat.succ_ne_self _), ⟨⟨.none, isE⟩, ⟨_, isI, rfl, rfl⟩⟩, fresh (h1 := h1), q⟩

/-! ### as data -/
def enumF : Nat → List D → List D
  | _, [] => []
  | k, d :: ds => .tup [.int (k : Nat), d] :: enumF (k + 1) ds
theorem enumF_length : ∀ (k : Nat) (ds : List D), (enumF k ds).length = ds.length
  | _, [] => rfl
  | k, d :: ds => by unfold enumF; rw [List.length_cons, List.length_cons, enumF_length]
theorem enumF_at : ∀ (k : Nat) (ds : List D) (i : Nat), (enumF k ds)[i]? = (ds[i]?).map fun d => D.tup [.int ((k + i : Nat) : Int), d]
  | _, [], i => by simp [enumF]
  | k, d :: ds, 0 => by simp [enumF]
  | k, d :: ds, i + 1 => by
    unfold enumF
    rw [List.getElem?_cons_succ, List.getElem?_cons_succ, enumF_at (k + 1) ds i]
    congr 2
    funext d
    rw [show k + 1 + i = k + (i + 1) by omega]
def enumD (d : D) : Option (List D) := match d with
  | .lst ds => some (enumF 0 ds)
  | .tup ds => some (enumF 0 ds)
  | _ => none
def iEnumM (m : EM) : Env → Res (List D) := fun ρ => (m ρ).bind fun d ρ1 => ofO (enumD d) ρ1
section
variable {K : PySem.W.Frag} {M : Addr → Prop} {H : Hp}
theorem pair_rp {T : Addr} {i : Nat} {x : V} {d : D} {M' : Addr → Prop} {H' : Hp} (hT : H' T = none) (r : Rp K M' H' d x) : Rp K M' (upd H' T (.tup [.int (i : Nat), x])) (.tup [.int (i : Nat), d]) (.ref T) :=
  .tup (show 2 ≤ sizeLine by decide) (SqT.of upd_same) (.cons (.int _) (.cons (r.ext (Ext.new hT)) .nil))
theorem itOk_enumL {a : Addr} {ds : List D} {vs : List V} (h : H a = some (.lst vs)) (n : ¬ M a) (r : RpL K M H ds vs) : ItOk K M H (Ite K a) (enumF 0 ds) := fun M' H' x => by
  have seq : SqL K H' a vs := SqL.of (x _ _ h (.inl n)).1
  refine ⟨fun i hi => ⟨vs, seq, by rw [enumF_length] at hi; rw [← r.length]; exact hi⟩, fun i d hd => ?_⟩
  rw [enumF_at] at hd
  cases e : ds[i]? with
  | none => rw [e] at hd; cases hd
  | some z =>
    rw [e] at hd
    cases hd
    obtain ⟨v, hv, rv⟩ := r.get e
    refine ⟨⟨vs, v, seq, hv⟩, fun y H2 ⟨T, w, e1, nT, e2, at_⟩ => ?_⟩
    subst e1 e2
    have ew := at_ vs seq
    rw [hv] at ew
    cases ew
    refine ⟨fun b o q => by rw [upd_ne (ne_of_none q nT)]; exact q, ?_⟩
    rw [Nat.zero_add]
    exact pair_rp nT (Rp.ext x rv)
theorem itOk_enumT {a : Addr} {ds : List D} {vs : List V} (h : SqT K H a vs) (r : RpL K M H ds vs) : ItOk K M H (IteT K a) (enumF 0 ds) := fun M' H' x => by
  have seq : SqT K H' a vs := x.sqT h
  refine ⟨fun i hi => ⟨vs, seq, by rw [enumF_length] at hi; rw [← r.length]; exact hi⟩, fun i d hd => ?_⟩
  rw [enumF_at] at hd
  cases e : ds[i]? with
  | none => rw [e] at hd; cases hd
  | some z =>
    rw [e] at hd
    cases hd
    obtain ⟨v, hv, rv⟩ := r.get e
    refine ⟨⟨vs, v, seq, hv⟩, fun y H2 ⟨T, w, e1, nT, e2, at_⟩ => ?_⟩
    subst e1 e2
    have ew := at_ vs seq
    rw [hv] at ew
    cases ew
    refine ⟨fun b o q => by rw [upd_ne (ne_of_none q nT)]; exact q, ?_⟩
    rw [Nat.zero_add]
    exact pair_rp nT (Rp.ext x rv)
end
theorem di_enum {X : Cx} {W : WX} {elts : List Expr} {kk : Nat} {p pos tpos : Pos} {e : Expr} {m : EM} (hg : Gl X "enumerate") (hm : X.mg "enumerate" = none) (h : DE X W e m) (hs : starEach [e] X.env = [(false, eval e X.env)] := by rfl) (hs2 : starEach [e] X.env = (false, eval e X.env) :: starEach [] X.env := by rfl) :
    DI X W (.Tuple elts kk tpos) (.Call (.Name "enumerate" p) [e] [] pos) (iEnumM m) := by
  obtain ⟨t, pt, s⟩ := h
  refine ⟨_, pi_enumT hg hm (pa_cons pt pa_nil hs2) hs, fun B M H ρ σ Q rp k => s B M H ρ σ _ rp (Post.seq k fun d ρ1 M1 H1 v x1 r1 q1 k1 => ?_)⟩
  cases d with
  | tup ds =>
    cases q1 with
    | tup l h1 h2 => exact ⟨_, _, rfl, .inr ⟨h1, k1 M1 H1 _ Ext.refl r1 ⟨itOk_enumT h1 h2, by rw [enumF_length]; exact l⟩⟩⟩
  | lst ds =>
    cases q1 with
    | lst l n h1 h2 => exact ⟨_, _, rfl, .inl ⟨SqL.of h1, k1 M1 H1 _ Ext.refl r1 ⟨itOk_enumL h1 n h2, by rw [enumF_length]; exact l⟩⟩⟩
  | _ => exact k1.elim
end NV

set_option Elab.async false
set_option linter.all false
set_option maxRecDepth 100000
set_option maxHeartbeats 4000000
/-! Core24: an owned dict is written: d[k] = v. -/
namespace NV
open PySem PySem.Spec PyProof.Rows L2
def putD (kvs : List (Key × D)) (k : Key) (z : D) : List (Key × D) := if (lookD kvs k).isSome then kvs.map (fun kv => if kv.1 = k then (kv.1, z) else kv) else kvs ++ [(k, z)]
section
variable {K : PySem.W.Frag} {M : Addr → Prop} {H : Hp}
theorem RpK.append : ∀ {ds es : List (Key × D)} {vs ws : List (Key × V)}, RpK K M H ds vs → RpK K M H es ws → RpK K M H (ds ++ es) (vs ++ ws)
  | [], _, _, _, h, g => by cases h; exact g
  | (k, d) :: ds, _, _, _, h, g => by
    cases h with
    | cons h1 h2 => exact .cons h1 (RpK.append h2 g)
theorem RpK.mapPut {k : Key} {z : D} {v : V} (r : Rp K M H z v) : ∀ {ds : List (Key × D)} {vs : List (Key × V)}, RpK K M H ds vs → RpK K M H (ds.map fun kv => if kv.1 = k then (kv.1, z) else kv) (vs.map fun kv => if kv.1 = k then (kv.1, v) else kv)
  | [], _, h => by cases h; exact .nil
  | (j, d) :: ds, _, h => by
    cases h with
    | cons h1 h2 =>
      rw [List.map_cons, List.map_cons]
      by_cases e : j = k
      · simp only [e, if_true]
        exact .cons r (RpK.mapPut r h2)
      · simp only [e, if_false]
        exact .cons h1 (RpK.mapPut r h2)
theorem RpK.put {k : Key} {z : D} {v : V} {ds : List (Key × D)} {vs : List (Key × V)} (h : RpK K M H ds vs) (r : Rp K M H z v) : RpK K M H (putD ds k z) (putK vs k v) := by
  unfold putD putK
  rw [valV_any, h.isSome]
  cases (lookD ds k).isSome with
  | true => simp only [if_true]; exact RpK.mapPut r h
  | false => simp only [Bool.false_eq_true, if_false]; exact RpK.append h (.cons r .nil)
end
section
variable {X : Cx} {W : WX} {e ix : Expr} {pos : Pos}
end
end NV

set_option Elab.async false
set_option linter.all false
set_option maxRecDepth 100000
set_option maxHeartbeats 4000000
/-! Core25: a, b, c = e, [], [] : the new ones are owned. -/
namespace NV
open PySem PySem.Spec PyProof.Rows L2
section
variable {X : Cx} {W : WX} {pos : Pos}
/-- a new one, stored -/
theorem Rep.put {B : Base} {M : Addr → Prop} {H : Hp} {ρ : Env} {σ : St} (r : Rep X.K B M H ρ σ) {d : D} {o : HO} (how : toldOf o = none ∧ ∀ (M : Addr → Prop) (H : Hp) (p : Addr), M p → H p = some o → Ow X.K M H d p) {p : Addr} (hp : H p = none) (j : Nat) :
    Rep X.K B (fun b => M b ∨ b = p) (upd H p o) (ρ.set j (.o d)) (σ.set j (some (V.ref p))) :=
  (r.allocO hp).setO j (how.2 _ _ _ (.inr rfl) upd_same) (fun c f => by rw [f.plain upd_same how.1]; exact r.base_new hp) (fun c f => r.anon_newU hp how.1 f) fun c f => by rw [f.plain upd_same how.1]; exact r.pr_new hp
def sParE (i j : Nat) (m : EM) (d : D) : SM := fun ρ => (m ρ).out fun x ρ1 => .nx ((ρ1.set i (.v x)).set j (.o d))
def sParE3 (i j l : Nat) (m : EM) (d e : D) : SM := fun ρ => (m ρ).out fun x ρ1 => .nx (((ρ1.set i (.v x)).set j (.o d)).set l (.o e))
end
end NV

set_option Elab.async false
set_option linter.all false
set_option maxRecDepth 100000
set_option maxHeartbeats 4000000
/-! Core26: sorted of texts, d.get(k, x). -/
namespace NV
open PySem PySem.Spec PyProof.Rows L2
section
variable {X : Cx}
/-! ### d.get(k, x) -/
variable {W : WX} {o e f : Expr} {apos cpos : Pos} {mo me mf : EM}
end
end NV

set_option Elab.async false
set_option linter.all false
set_option maxRecDepth 100000
set_option maxHeartbeats 4000000
/-! Core27: (a, b, ..) = a list. -/
namespace NV
open PySem PySem.Spec PyProof.Rows L2
section
variable {X : Cx} {W : WX}
end
end NV

set_option Elab.async false
set_option linter.all false
set_option maxRecDepth 100000
set_option maxHeartbeats 4000000
/-! Core28: sorted(set(texts)). -/
namespace NVT
open PySem PySem.Spec PyProof PyProof.Rows L2
section
variable {P : Program} {w : World} {h h' : Heap} {a : Addr} {S S' : Str → Bool} {n : Nat}
theorem IsT.congr (R : IsT w h a S n) (e : ∀ k, S' k = S k) : IsT w h a S' n := by
  have q : S' = S := funext e
  rw [q]; exact R
end
section
variable {P : Program} {w : World} {A : Around} {E : Value → Shared → Prop} {s : Shared} {a : Addr} {S : Str → Bool} {n : Nat}
end
end NVT

set_option Elab.async false
set_option linter.all false
set_option maxRecDepth 100000
set_option maxHeartbeats 8000000
/-! Core29: set(list of texts), walked and sorted. -/
namespace NVT
open PySem PySem.Spec PyProof PyProof.Rows L2
section
variable {P : Program} {w : World} {A : Around} {E : Value → Shared → Prop} {s : Shared}
end
end NVT

set_option Elab.async false
set_option linter.all false
set_option maxRecDepth 100000
set_option maxHeartbeats 4000000
/-! Core30: sorted(set(list of texts)) as a function, xs.extend(list), xs.pop(i). -/
namespace NV
open PySem PySem.Spec PyProof.Rows L2
section
variable {X : Cx} {W : WX} {a : Expr} {p p2 q pos apos cpos : Pos}
/-! ### xs.extend(list), xs.pop(i) -/
end
end NV

set_option Elab.async false
set_option linter.all false
set_option maxRecDepth 100000
set_option maxHeartbeats 4000000
/-! Core31: text * number. -/
namespace NV
open PySem PySem.Spec PyProof.Rows L2
def mul4 (d e : D) : Option D := match d, e with
  | .str x, .int n => if 0 ≤ n ∧ n ≤ 1000 ∧ x.length ≤ 1000 ∧ strGb (Txt.mul x n) = true then some (.str (Txt.mul x n)) else none
  | d, e => mulD d e
def rMulS : R2 := fun x y H Q => ∃ a n, x = V.str a ∧ y = V.int n ∧ MulOk a n ∧ Q (.str (Txt.mul a n)) H
theorem op_mulS {X : Cx} : OpR X (binaryOp .Mult) rMulS := by
  intro pins s σ H x y v u Q I rx ry h
  obtain ⟨a, n, rfl, rfl, hok, q⟩ := h
  obtain ⟨t, rfl⟩ := rx
  obtain ⟨t2, rfl⟩ := ry
  exact PySem.SB.mul hok fun t' k => ⟨.str (Txt.mul a n), H, I.tok k, ⟨t', rfl⟩, q⟩
def rMul4 : R2 := fun x y H Q => rMul2 x y H Q ∨ rMulS x y H Q
theorem op_mul4 {X : Cx} : OpR X (binaryOp .Mult) rMul4 := op_mul2.or op_mulS
theorem o_mul4 {X : Cx} : OpE X mul4 rMul4 := by
  intro B W M H ρ σ d e z x y Q rp hx hy hf h
  unfold mul4 at hf
  split at hf
  · split at hf
    · rename_i a n hc
      cases hf
      obtain ⟨rfl, g⟩ := rq_str hx
      obtain rfl := rq_int hy
      exact .inr ⟨a, n, rfl, rfl, mulOk_of 1000 1000 hc.2.2.1 (by omega) (by omega) (by decide) (by decide), post_v h rp (.str (strGb_ok hc.2.2.2))⟩
    · cases hf
  · exact .inl (o_mul B W M H ρ σ d e z x y Q rp hx hy hf h)
end NV

set_option Elab.async false
set_option linter.all false
set_option maxRecDepth 100000
set_option maxHeartbeats 4000000
/-! Core32: isinstance of the base of a law's exception classes. -/
namespace NV
open PySem PySem.Spec PyProof.Rows L2
section
variable {X : Cx} {W : WX} {p p1 p2 pos np pos2 : Pos} {cs ts : List Str}
end
end NV

set_option Elab.async false
set_option linter.all false
set_option maxRecDepth 100000
set_option maxHeartbeats 4000000
/-! Core33: the head's run in three parts. -/
namespace NV
open PySem PySem.Spec PyProof.Rows L2
end NV

set_option Elab.async false
set_option linter.all false
set_option maxRecDepth 100000
set_option maxHeartbeats 4000000
/-! Core34: a, b = list(e), [] : both owned. -/
namespace NV
open PySem PySem.Spec PyProof.Rows L2
section
variable {X : Cx} {W : WX} {pos : Pos}
end
end NV

set_option Elab.async false
set_option linter.all false
set_option maxRecDepth 100000
set_option maxHeartbeats 4000000
/-! Core35: sorted of pairs (int, text); while; a, b = list(e), list(v[k]). -/
namespace SrtS
open PySem PySem.W PySem.Calls PyProof.Rows Builtin SrtO
section
variable {prog : Program} {w : World} {A : Around} {E : Value → Shared → Prop} {s : Shared}
end
end SrtS
namespace NV
open PySem PySem.Spec PyProof.Rows L2
section
variable {X : Cx}
end
section
variable {X : Cx} {W : WX} {pos : Pos}
/-! ### a, b = list(e), list(v[k]) -/
end
end NV

set_option Elab.async false
set_option linter.all false
set_option maxRecDepth 100000
set_option maxHeartbeats 4000000
/-! Core36: what is owned is read as a value for a while, and owned behind it. -/
namespace NV
open PySem PySem.Spec PyProof.Rows L2
section
variable {K : PySem.W.Frag} {B : Base} {M : Addr → Prop} {H : Hp} {ρ : Env} {σ : St}
end
end NV

set_option Elab.async false
set_option linter.all false
set_option maxRecDepth 100000
set_option maxHeartbeats 4000000
/-! Core37: d.get(k, x) where k may be a tuple of keys and d has none of tuples. -/
namespace NV
open PySem PySem.Spec PyProof.Rows L2
section
variable {P : Program} {w : World} {A : Around} {E : Value → Shared → Prop} {s : Shared}
end
section
variable {X : Cx} {pins : List (Addr × Obj)} {σ : St} {H : Hp} {s : Shared} {A : Around} {E : Value → Shared → Prop} {a b : Addr} {kvs : List (Key × V)} {ks : List Key} {d : V} {r : Value}
end
section
variable {X : Cx} {o e f : Expr} {apos cpos : Pos} {td ty tx : TE}
end
section
variable {X : Cx} {W : WX} {o e f : Expr} {apos cpos : Pos} {mo me mf : EM}
end
end NV

set_option Elab.async false
set_option linter.all false
set_option maxRecDepth 100000
set_option maxHeartbeats 4000000
/-! Core38: a dict in a tuple of texts. -/
namespace NV
open PySem PySem.Spec PyProof.Rows L2
section
open AutoSeq1 (wpAny_loadPart')
open MeetsSeq MeetsSeq2 MeetsSeq3 SeqRoads2 SeqAt
end
section
variable {X : Cx}
end
end NV

set_option Elab.async false
set_option linter.all false
set_option maxRecDepth 100000
set_option maxHeartbeats 4000000
/-! Core39: tuple(d.items()). -/
namespace NV
open PySem PySem.Spec PyProof.Rows L2
section
variable {prog : Program} {w : World} {A : Around} {E : Value → Shared → Prop} {s : Shared} {r d : Addr} {kt : Type} [DecidableEq kt] {knd : PySem.KeyKind prog w kt} {kvs : List (kt × Value)} {ep : Nat}
end
section
variable {X : Cx} {e : Expr} {te : TE} {p apos cpos pos : Pos}
end
section
variable {X : Cx} {W : WX} {e : Expr} {m : RM} {p apos cpos pos : Pos}
end
end NV

set_option Elab.async false
set_option linter.all false
set_option maxRecDepth 100000
set_option maxHeartbeats 4000000
/-! Core40: xs.index(y), of texts. -/
namespace NV
open PySem PySem.Spec PyProof.Rows L2
section
variable {X : Cx} {W : WX} {x m : Str} {j : Nat} {p p1 p2 pos pos2 apos cpos : Pos} {e a b : Expr} {es : List Expr}
def indexS (bs : List Str) (y : Str) : Option Nat := match bs with
  | [] => none
  | b :: bs => if b == y then some 0 else (indexS bs y).map (· + 1)
def indexSD (d e : D) : Option D := match d, e with
  | .lst ds, .str y => ((strsOf ds).bind fun bs => indexS bs y).map fun j => .int (j : Nat)
  | _, _ => none
def eIndexS (ma mb : RM) : EM := fun ρ => (ma ρ).bind fun x ρ1 => (ofO (x.get ρ1) ρ1).bind fun d0 _ => if isLst d0 then (mb ρ1).bind fun y ρ2 => (ofO (x.get ρ2) ρ2).bind fun d _ => (ofO (y.get ρ2) ρ2).bind fun e _ => ofO (indexSD d e) ρ2 else .bad
end
@[simp] theorem eIndexS_eq (ma mb : RM) (ρ : Env) : eIndexS ma mb ρ = (ma ρ).bind fun x ρ1 => (ofO (x.get ρ1) ρ1).bind fun d0 _ => if isLst d0 then (mb ρ1).bind fun y ρ2 => (ofO (x.get ρ2) ρ2).bind fun d _ => (ofO (y.get ρ2) ρ2).bind fun e _ => ofO (indexSD d e) ρ2 else .bad := rfl
end NV

set_option Elab.async false
set_option linter.all false
set_option maxRecDepth 100000
set_option maxHeartbeats 4000000
/-! Core41: a table of the module with texts as keys: x in T, x not in T, T[x]. -/
namespace NV
open PySem PySem.Spec PyProof.Rows L2
def eTbIn (tb : List (Str × D)) (neg : Bool) (ma : RM) : EM := fun ρ => (ma ρ).bind fun x ρ1 => (ofO (x.get ρ1) ρ1).bind fun d _ => match d with
  | .str z => .ok (.bl (neg != (tb.find? fun q => q.1 == z).isSome)) ρ1
  | _ => .bad
def eTbIx (tb : List (Str × D)) (ma : RM) : EM := fun ρ => (ma ρ).bind fun x ρ1 => (ofO (x.get ρ1) ρ1).bind fun d _ => match d with
  | .str z => ofO ((tb.find? fun q => q.1 == z).map Prod.snd) ρ1
  | _ => .bad
@[simp] theorem eTbIn_eq (tb : List (Str × D)) (neg : Bool) (ma : RM) (ρ : Env) : eTbIn tb neg ma ρ = (ma ρ).bind fun x ρ1 => (ofO (x.get ρ1) ρ1).bind fun d _ => match d with
  | .str z => .ok (.bl (neg != (tb.find? fun q => q.1 == z).isSome)) ρ1
  | _ => .bad := rfl
@[simp] theorem eTbIx_eq (tb : List (Str × D)) (ma : RM) (ρ : Env) : eTbIx tb ma ρ = (ma ρ).bind fun x ρ1 => (ofO (x.get ρ1) ρ1).bind fun d _ => match d with
  | .str z => ofO ((tb.find? fun q => q.1 == z).map Prod.snd) ρ1
  | _ => .bad := rfl
section
variable {X : Cx} {W : WX} {a : Expr} {ma : RM} {pos p2 : Pos} {x : Str} {tb : List (Str × D)}
end
/-! ### the head's facts: tables of numbers too -/
section
variable {K : PySem.W.Frag} {h : Heap} {mg : Str → Option Value} {w : World}
end
end NV

set_option Elab.async false
set_option linter.all false
set_option maxRecDepth 100000
set_option maxHeartbeats 4000000
/-! Core42: sorted(set(list of numbers)), sorted(tuple of numbers). -/
namespace NVI
open PySem PySem.Spec PyProof.Rows L2
def emI (w : World) : Obj := { cls := .type "set", dict := none, data := .set #[] 0 (.fresh 0 0 (!w.params.followText "set-order")) }
section
variable {P : Program} {w : World} {A : Around} {E : Value → Shared → Prop} {s : Shared}
set_option maxRecDepth 100000 in
set_option maxHeartbeats 3200000 in
theorem setI_list {src : Addr} {arr : Array Value} {xs : List Int} {R : Value → Shared → Prop} (calm : A.handled = none) (isSrc : s.heap.IsList src arr) (sz : arr.size = xs.length)
    (vals : ∀ (i : Nat) (u : Value), arr[i]? = some u → ∃ x t, xs[i]? = some x ∧ u = .int x t) (few : xs.length + 1 < scanBound)
    (done : ∀ (g : Heap) (k c : Nat), SetR w g s.heap.objs.size (fun y => decide (y ∈ xs)) c → c ≤ xs.length →
      (∀ b ob, s.heap.get? b = some ob → g.get? b = some ob) → R (.ref s.heap.objs.size) { s with heap := g, toks := k }) :
    wpAny (model P w) A (call (.type "set") [.ref src]) R E s := by
  obtain ⟨m1, m2, m3⟩ := F.called_set.mro
  have m4 := F.called_set.made
  have m5 := F.called_set.sub
  refine wpAny_call (codeAny_of_tree ?_)
  show wpAny _ _ (callAny (.type "set") _) _ _ _
  refine wpAny_pure ⟨Code.quiet_builtin _ (by decide +kernel), codeAny_builtin F.entry_type_call ?_⟩
  rw [Around.under_plain (weight_type_call_type "set" [.ref src] []) rfl]
  have m6 := F.called_set.notType
  have m7 := F.called_set.canCreate
  have m8 := F.typeCall_set_1 (.ref src)
  repeat (any_goals (first | assumption | wp_step))
  refine codeAny_mono (code_set_led1 (.ref src) (E := E) (Q₁ := fun obj s₁ => obj = .ref s.heap.objs.size ∧ s₁ = { s with heap := s.heap.push (emI w) }) ⟨rfl, rfl⟩) fun z st1 hz => ?_
  cases z with
  | error e => exact hz
  | ok fl =>
    cases fl with
    | ret ob =>
      obtain ⟨rfl, rfl⟩ := hz
      have at1 : (s.heap.push (emI w)).get? s.heap.objs.size = some (emI w) := Heap.get?_push_size _ rfl
      have ty1 : Shared.TypeIs { s with heap := s.heap.push (emI w) } (.ref s.heap.objs.size) "set" := ⟨_, at1, rfl⟩
      have m9 := F.called_set.init.lookup
      have m10 := F.called_set.init.bind (.ref s.heap.objs.size)
      repeat (any_goals (first | assumption | wp_step))
      refine codeAny_mono (codeAny_call_builtin (R := wants (fun z st2 => z = .none ∧ ∃ g k c, st2 = { s with heap := g, toks := k } ∧ SetR w g s.heap.objs.size (fun y => decide (y ∈ xs)) c ∧ c ≤ xs.length ∧
          (∀ b ob, s.heap.get? b = some ob → g.get? b = some ob)) E) F.called_set.init.plain F.entry_set_init (check_set_init_1 ty1 ?_)) fun z2 st2 hz2 => ?_
      · obtain ⟨os, hos, cs, ns, ds⟩ := isSrc
        obtain ⟨q1, q2, q3, q4⟩ := os
        simp only at cs ds
        subst cs; subst ds
        have at2 : (s.heap.push (emI w)).get? src = some { cls := .type "list", dict := q2, data := .seq arr ns, slots := q4 } := Heap.get?_push_of_some _ hos
        have m11 := F.sub_list_set
        have m12 := F.sub_list_frozenset
        have m13 : (Value.type "list" == Value.type "dict") = false := by decide
        have is2 : (s.heap.push (emI w)).IsList src arr := ⟨_, at2, rfl, ns, rfl⟩
        unfold Builtin.«set.__init__» noKeywords Builtin.Frozenset.updateFrom
        generalize hPI : pyIter = PI
        wp_walk
        subst hPI
        refine wpAny_pyIter_list is2 ?_
        refine wpAny_bind (wpAny_runValue ?_)
        have lt : src < s.heap.objs.size := Heap.lt_size hos
        have c3 : A.in1.in1.in1.handled = none := by simp [calm]
        have ne1 : src ≠ (s.heap.push (emI w)).objs.size := by
          rw [Heap.size_push]; exact Nat.ne_of_lt (Nat.lt_succ_of_lt lt)
        have ne2 : s.heap.objs.size ∉ [(s.heap.push (emI w)).objs.size, src] := by
          rw [Heap.size_push]; simp only [List.mem_cons, List.mem_singleton, List.not_mem_nil, or_false, not_or]
          exact ⟨Nat.ne_of_lt (Nat.lt_succ_self _), Nat.ne_of_gt lt⟩
        refine set_update_ints ((Walks.list c3 _ src ne1 arr).toS) s.heap.objs.size ne2 xs sz few vals (arr.size - 0) 0 _ (by omega) (Nat.zero_le _) ⟨⟨_, Heap.get?_push_size _ rfl, rfl, rfl⟩, (is2.push _)⟩ ?start ?stop
        case start =>
          have at3 : ((s.heap.push (emI w)).push { cls := .type "list_iterator", data := .fields #[.ref src, .int 0 0] }).get? s.heap.objs.size = some (emI w) := Heap.get?_push_of_some _ at1
          exact ⟨0, Nat.le_refl 0, setR_new_at at3⟩
        case stop =>
          intro st3 c mv hc hS
          obtain ⟨g, g2, d2, k2, o2⟩ := st3
          have e1 : g2 = s.gens := mv.gens
          have e2 : d2 = s.drawn := mv.drawn
          have e3 : o2 = s.os := mv.os
          subst e1; subst e2; subst e3
          show wpAny _ _ _ _ _ _
          refine wpAny_pure ?_
          show wpAny _ _ (ret Value.none) _ _ _
          rw [sz] at hc
          refine wpAny_pure ⟨rfl, g, k2, c, rfl, hS, hc, fun b ob e => ?_⟩
          have hb := Heap.lt_size e
          have n1 : b ≠ s.heap.objs.size := Nat.ne_of_lt hb
          have n2 : b ≠ (s.heap.push (emI w)).objs.size := by
            rw [Heap.size_push]; exact Nat.ne_of_lt (Nat.lt_succ_of_lt hb)
          exact mv.heap b ob (by simp only [List.mem_cons, List.mem_singleton, List.not_mem_nil, or_false, not_or]; exact ⟨n1, n2⟩) (Heap.get?_push_of_some _ (Heap.get?_push_of_some _ e))
      · cases z2 with
        | error e => exact hz2
        | ok fl2 =>
          cases fl2 with
          | ret z3 =>
            obtain ⟨rfl, g, k, c, rfl, hS, hc, hk⟩ := hz2
            repeat (any_goals (first | assumption | wp_step))
            exact done _ _ _ hS hc hk
          | _ => exact hz2.elim
    | _ => exact hz.elim

end
end NVI
namespace NV
open PySem PySem.Spec PyProof.Rows L2
section
variable {X : Cx} {W : WX} {a : Expr} {p p2 q pos apos cpos : Pos}
/-! ### sorted(set(a list of numbers)) -/
/-! ### sorted(a tuple of numbers) -/
end
end NV

set_option Elab.async false
set_option linter.all false
set_option maxRecDepth 100000
set_option maxHeartbeats 4000000
/-! Core43: reversed, zip. -/
namespace NV
open PySem PySem.Spec PyProof.Rows L2
/-! ### reversed -/
section
variable {K : PySem.W.Frag} {M : Addr → Prop} {H : Hp}
end
/-! ### zip -/
section
variable {K : PySem.W.Frag} {M : Addr → Prop} {H : Hp}
end
end NV

set_option Elab.async false
set_option linter.all false
set_option maxRecDepth 100000
set_option maxHeartbeats 4000000
/-! Core44: dict(list of pairs). -/
namespace NV
open PySem PySem.Spec PyProof.Rows L2
section
variable {X : Cx} {K : PySem.W.Frag} {M : Addr → Prop} {H : Hp}
end
end NV

set_option Elab.async false
set_option linter.all false
set_option maxRecDepth 100000
set_option maxHeartbeats 4000000
/-! Core45: zip of a tuple and a list. -/
namespace NV
open PySem PySem.Spec PyProof.Rows L2
/-! ### as data -/
section
variable {K : PySem.W.Frag} {M : Addr → Prop} {H : Hp}
end
end NV

set_option Elab.async false
set_option linter.all false
set_option maxRecDepth 100000
set_option maxHeartbeats 4000000
/-! Core46: sorted of a dict with text keys. -/
namespace NV
open PySem PySem.Spec PyProof.Rows L2
section
variable {X : Cx} {K : PySem.W.Frag} {M : Addr → Prop} {H : Hp}
end
end NV

set_option Elab.async false
set_option linter.all false
set_option maxRecDepth 100000
set_option maxHeartbeats 4000000
/-! Core47: a slice of a list with a step. -/
namespace NV
open PySem PySem.Spec PyProof.Rows L2
section
variable {X : Cx} {W : WX}
end
end NV

set_option Elab.async false
set_option linter.all false
set_option maxRecDepth 100000
set_option maxHeartbeats 4000000
/-! Core53: texts: x.split(y), int(text), str(text). -/
namespace NV
open PySem PySem.Spec PyProof.Rows L2
section
variable {X : Cx} {W : WX} {e : Expr} {pos apos : Pos}
def splitD (d e : D) : Option D := match d, e with
  | .str a, .str b => if (b.length == 0) = false ∧ a.length + 2 ≤ sizeLine ∧ (Txt.split a b).all strGb = true ∧ (Txt.split a b).length ≤ sizeLine then some (.lst ((Txt.split a b).map D.str)) else none
  | _, _ => none
def eSplit (mo me : EM) : EM := fun ρ => (mo ρ).bind fun d ρ1 => if isStr d then (me ρ1).bind fun e ρ2 => ofO (splitD d e) ρ2 else .bad
theorem de_split {o : Expr} {mo me : EM} (ho : DE X W o mo) (he : DE X W e me) (hs : starEach [e] X.env = [(false, eval e X.env)] := by rfl) (hbase : attributeBase o "split" X.env (eval o X.env) = eval o X.env := by rfl) (hline : (apos.endLine == pos.line) = true := by rfl) :
    DE X W (.Call (.Attribute o "split" apos) [e] [] pos) (eSplit mo me) := by
  obtain ⟨t, pt, s⟩ := ho
  obtain ⟨u, pu, s'⟩ := he
  refine ⟨_, pe_split pt pu hs hbase hline, fun B M H ρ σ Q rp k => s B M H ρ σ _ rp (Post.seq k fun d ρ1 M1 H1 v x1 r1 q1 k1 => ?_)⟩
  cases d with
  | str z =>
    cases q1
    refine ⟨⟨z, rfl⟩, s' B M1 H1 ρ1 σ _ r1 (Post.seq k1 fun d2 ρ2 M2 H2 v2 x2 r2 q2 k2 => ?_)⟩
    cases d2 with
    | str y =>
      simp only [splitD] at k2
      split at k2
      · rename_i hc
        cases q2
        exact ⟨z, y, rfl, rfl, hc.1, hc.2.1, fun p hp => post_l k2 r2 (rpl_strs fun x hx => strGb_ok (List.all_eq_true.mp hc.2.2.1 x hx)) (by rw [List.length_map]; exact hc.2.2.2) hp⟩
      · exact k2.elim
    | _ => exact k2.elim
  | _ => exact k1.elim
/-! ### int(text), str(text) -/
def intZ : List D → Option D
  | [.str x] => if x.length ≤ 640 then (PySem.intText? x).map D.int else none
  | ds => intD ds
theorem call_int_text : CallR X (.type "int") (fun xs H Q => ∃ x n, xs = [.str x] ∧ x.length ≤ 640 ∧ PySem.intText? x = some n ∧ Q (.int n) H) := by
  intro pins s σ H xs us Q I r h
  obtain ⟨x, n, rfl, hl, hn, q⟩ := h
  obtain ⟨u, rfl, t, rfl⟩ := vals1 r
  exact PySem.W.KIN.call_text hn hl ⟨.int n, H, I.tok _, ⟨_, rfl⟩, q⟩
theorem cr_intZ : CallR X (.type "int") (fun xs H Q => ((∃ i, xs = [.int i] ∧ Q (.int i) H) ∨ ∃ k, xs = [.bl k] ∧ Q (.int (if k then 1 else 0)) H) ∨ ∃ x n, xs = [.str x] ∧ x.length ≤ 640 ∧ PySem.intText? x = some n ∧ Q (.int n) H) := call_int1.or call_int_text
theorem f_intZ : CallE X intZ (fun xs H Q => ((∃ i, xs = [.int i] ∧ Q (.int i) H) ∨ ∃ k, xs = [.bl k] ∧ Q (.int (if k then 1 else 0)) H) ∨ ∃ x n, xs = [.str x] ∧ x.length ≤ 640 ∧ PySem.intText? x = some n ∧ Q (.int n) H) := by
  intro B W M H ρ σ ds z xs Q rp hp hf h
  unfold intZ at hf
  split at hf
  · split at hf
    · rename_i x hl
      cases e : PySem.intText? x with
      | none => rw [e] at hf; cases hf
      | some n =>
        rw [e] at hf
        cases hf
        cases hp with | cons a b => cases b; obtain ⟨rfl, _⟩ := rq_str a; exact .inr ⟨_, n, rfl, hl, e, post_v h rp (.int _)⟩
    · cases hf
  · exact .inl (f_int B W M H ρ σ ds z xs Q rp hp hf h)
def strZ : List D → Option D
  | [.str x] => some (.str x)
  | ds => strI ds
theorem cr_strZ : CallR X (.type "str") (fun xs H Q => (∃ i, xs = [.int i] ∧ i.natAbs.log2 < 1920 ∧ Q (.str (toString i)) H) ∨ ∃ a, xs = [.str a] ∧ Q (.str a) H) := call_str_int.or SkE.call_str_str
theorem f_strZ : CallE X strZ (fun xs H Q => (∃ i, xs = [.int i] ∧ i.natAbs.log2 < 1920 ∧ Q (.str (toString i)) H) ∨ ∃ a, xs = [.str a] ∧ Q (.str a) H) := by
  intro B W M H ρ σ ds z xs Q rp hp hf h
  unfold strZ at hf
  split at hf
  · cases hf
    cases hp with | cons a b => cases b; obtain ⟨rfl, g⟩ := rq_str a; exact .inr ⟨_, rfl, post_v h rp (.str g)⟩
  · exact .inl (f_strI B W M H ρ σ ds z xs Q rp hp hf h)
end
end NV

set_option Elab.async false
set_option linter.all false
set_option maxRecDepth 100000
set_option maxHeartbeats 4000000
/-! Core54: dicts whose keys are tuples; the class House: its fields, its methods, a new one. -/
namespace NV
open PySem PySem.Spec PyProof.Rows L2

/-! ### tuples as keys -/
def putT (kvs : List (List Key × D)) (k : List Key) (z : D) : List (List Key × D) := if (lookT kvs k).isSome then kvs.map (fun kv => if kv.1 = k then (kv.1, z) else kv) else kvs ++ [(k, z)]
section
variable {K : PySem.W.Frag} {M : Addr → Prop} {H : Hp}
theorem RpT.look (k : List Key) : ∀ {ds : List (List Key × D)} {vs : List (List Key × V)}, RpT K M H ds vs → match lookT ds k with
    | some d => ∃ v, valV vs k = some v ∧ Rp K M H d v
    | none => valV vs k = none
  | [], _, h => by cases h; rfl
  | (j, d) :: ds, _, h => by
    cases h with
    | @cons _ _ _ v vs h1 h2 =>
      have ih := RpT.look k h2
      unfold lookT valV at ih ⊢
      rw [List.find?_cons, List.find?_cons]
      by_cases e : j = k
      · simp only [e, decide_true]
        exact ⟨v, rfl, h1⟩
      · simp only [decide_eq_false e]
        exact ih
theorem RpT.isSome {k : List Key} {ds : List (List Key × D)} {vs : List (List Key × V)} (h : RpT K M H ds vs) : (valV vs k).isSome = (lookT ds k).isSome := by
  have q := h.look k
  cases e : lookT ds k with
  | none =>
    rw [e] at q
    rw [show valV vs k = none from q]
    rfl
  | some d =>
    rw [e] at q
    obtain ⟨v, q, _⟩ := q
    rw [q]
    rfl
theorem RpT.append : ∀ {ds es : List (List Key × D)} {vs ws : List (List Key × V)}, RpT K M H ds vs → RpT K M H es ws → RpT K M H (ds ++ es) (vs ++ ws)
  | [], _, _, _, h, g => by cases h; exact g
  | (k, d) :: ds, _, _, _, h, g => by
    cases h with
    | cons h1 h2 => exact .cons h1 (RpT.append h2 g)
theorem RpT.mapPut {k : List Key} {z : D} {v : V} (r : Rp K M H z v) : ∀ {ds : List (List Key × D)} {vs : List (List Key × V)}, RpT K M H ds vs → RpT K M H (ds.map fun kv => if kv.1 = k then (kv.1, z) else kv) (vs.map fun kv => if kv.1 = k then (kv.1, v) else kv)
  | [], _, h => by cases h; exact .nil
  | (j, d) :: ds, _, h => by
    cases h with
    | cons h1 h2 =>
      rw [List.map_cons, List.map_cons]
      by_cases e : j = k
      · simp only [e, if_true]
        exact .cons r (RpT.mapPut r h2)
      · simp only [e, if_false]
        exact .cons h1 (RpT.mapPut r h2)
theorem RpT.put {k : List Key} {z : D} {v : V} {ds : List (List Key × D)} {vs : List (List Key × V)} (h : RpT K M H ds vs) (r : Rp K M H z v) : RpT K M H (putT ds k z) (putK vs k v) := by
  unfold putT putK
  rw [valV_any, h.isSome]
  cases (lookT ds k).isSome with
  | true => simp only [if_true]; exact RpT.mapPut r h
  | false => simp only [Bool.false_eq_true, if_false]; exact RpT.append h (.cons r .nil)
end
section
variable {X : Cx} {W : WX} {o : Expr} {es : List Expr} {mo : RM} {ml : Env → Res (List D)} {pos : Pos} {k : Nat} {p2 : Pos}
end

/-! ### a house -/
section
variable {X : Cx} {W : WX} {e o : Expr} {m : RM} {pos pos' : Pos} {k : Nat} {x : Str}
end

/-! ### methods -/
section
variable {X : Cx} {W : WX} {k n : Nat} {x : Str} {f : Addr} {fd : FuncData} {ps : List Str} {sp : Sp} {E : St → XK} {o e : Expr} {es : List Expr} {ta : TE} {t : TA} {m : Str} {pos apos : Pos} {fl : List Bool} {F : List D → FRes} {mo : RM} {ma : AM}
end
end NV

set_option Elab.async false
set_option linter.all false
set_option maxRecDepth 100000
set_option maxHeartbeats 4000000
/-! Core55: NoText: raised with its row, the row of a caught one. -/
namespace NV
open PySem PySem.Spec PyProof.Rows L2

/-! ### TurnError.__init__(self, '..') -/
structure TeF (K : PySem.W.Frag) (mg : Str → Option Value) (x : Str) : Prop where
  g : mg x = some (.ref (He.ga K x))
  ga : PySem.W.specialIn K (.ref (He.ga K x)) "__getattribute__" = some (some (.builtin "type.__getattribute__"))
  rd : PySem.W.readsIn K (He.ga K x) (.type "type") = true
  fc : PySem.W.findCls K (.ref (He.ga K x)) (.type "type") "__init__" = some (.val (.builtin "ValueError.__init__"))
theorem teF_ok {K : PySem.W.Frag} {h : Heap} {mg : Str → Option Value} {x : Str} (X : K.In h) (G : h.Ns mainGlobals mg) (c : teB x K = true) : TeF K mg x := by
  obtain ⟨c1, c⟩ := He.ba c
  obtain ⟨c2, c⟩ := He.ba c
  obtain ⟨c3, c4⟩ := He.ba c
  refine ⟨He.glo_ok X G c1, of_decide_eq_true c2, c3, ?_⟩
  split at c4
  · rename_i n e
    rw [e, eq_of_beq c4]
  · cases c4
section
variable {X : Cx} {x : Str} {e : Expr} {es : List Expr} {ta : TA} {p1 p2 pos : Pos}
theorem pe_teinit {pl : Sem Bool} (hg : Gl X x) (T : TeF X.K X.mg x) (ha : PA X (e :: es) ta) (hdb : (x == ("__debug__" : Str)) = false := by decide)
    (hc : eval (.Call (.Attribute (.Name x p1) "__init__" p2) (e :: es) [] pos) X.env = (do
      let ov ← eval (.Name x p1) X.env
      standAt p2.atName
      let (f, first) ← holding [ov] (getMethod ov "__init__" pl)
      callWith pos f first (backTo pos (starEach (e :: es) X.env)) (backToKw pos (keywordEach [] X.env))) := by rfl)
    (he : starEach (e :: es) X.env = (false, eval e X.env) :: starEach es X.env := by rfl) (hpl : (backTo pos (starEach es X.env)).any (·.1) = false := by rfl) :
    PE X (.Call (.Attribute (.Name x p1) "__init__" p2) (e :: es) [] pos) (tVeI X.K ta) := by
  refine ⟨fun pins s σ H Q I h => ?_⟩
  refine PySem.W.methodCall_KW (ld_glob I hg T.g ?_ hdb) hc
  refine PySem.W.method_cls I.kIn T.ga (PySem.W.cls_value I.kIn T.rd T.fc (by decide +kernel) ?_)
  show wpAny _ _ (callWith pos (Value.builtin "ValueError.__init__") [] (backTo pos (starEach (e :: es) X.env)) []) _ _ _
  refine PyProof.Rows.callWith_method1 (thn (ha.run pos pins _ σ H _ (I.tok _) h) fun us s1 ⟨vs, H1, I1, r1, a, C, ws, ev, hl, T, ea, q⟩ => ?_) he hpl
  subst ev
  cases r1 with
  | @cons _ u0 _ ur ra rw' =>
    obtain rfl : u0 = Value.ref a := ra
    have hlen : ur.length ≤ sizeLine := by
      rw [← Paired.length rw', sizeLine_eq]
      omega
    exact oinit_ok T I1 ea hlen fun s' J => ⟨.non, H1, J, rfl, q⟩
end

/-! ### NoText.__init__ -/
theorem oexC_of {K : PySem.W.Frag} {x : Str} (h : oexB x K = true) : OexC K (He.ga K x) := by
  obtain ⟨c1, h⟩ := He.ba h
  obtain ⟨c2, h⟩ := He.ba h
  obtain ⟨c3, h⟩ := He.ba h
  obtain ⟨c4, c5⟩ := He.ba h
  refine ⟨?_, of_decide_eq_true c2, of_decide_eq_true c3, of_decide_eq_true c4, c5⟩
  split at c1
  · rename_i dd cd sl ho
    split at c1
    · rename_i C' bm k0 k1 k2 k3 n k5 hm hs
      simp only [Bool.and_eq_true, beq_iff_eq, Bool.not_eq_true'] at c1
      obtain ⟨⟨⟨⟨e1, rfl⟩, hdel⟩, hdct⟩, ht⟩ := c1
      obtain ⟨nm, bs, mro, ns, qn, hd, sn, sub, ab, col, del⟩ := cd
      dsimp only at hm hdel hdct
      subst hm hdel hdct
      have hsl : sl = #[k0, k1, k2, k3, some (.builtin "ValueError.__new__"), k5] := by
        obtain ⟨l⟩ := sl
        simp only at hs
        rw [hs]
      subst hsl e1
      exact ⟨nm, qn, ns, bs, bm, sn, sub, ab, col, dd, k0, k1, k2, k3, k5, ho, ht⟩
    · cases c1
  · cases c1
/-- what NoText.__init__ promises -/
def spNT (C : Addr) : Sp := fun vs H Q _ => ∃ (a : Addr) (v : V), vs = [.ref a, v] ∧ H a = some (exo a C none) ∧ ∀ d, H d = none → d ≠ a → Q .non (upd (upd H d (exd d [("row", v)])) a (exo a C (some d)))
abbrev ntN : List Str := ["self", "row"]
/-- NoText at hand -/
structure NtF (P : Program) (w : World) (K : PySem.W.Frag) (mg : Str → Option Value) (base : Heap) : Prop where
  g : mg "NoText" = some (.ref (He.ga K "NoText"))
  o : OexC K (He.ga K "NoText")
  no : PySem.W.findIn K (.ref (He.ga K "NoText")) "row" = some none
  xf : XfC K (He.ga K "NoText")
  exm : PySem.W.exmOne K (.ref (He.ga K "NoText")) (.ref (He.ga K "NoText")) = some true
  ini : ∃ (f : Addr) (fd : FuncData), PySem.W.findIn K (.ref (He.ga K "NoText")) "__init__" = some (some (.ref f)) ∧ PySem.W.typeIn K (.ref f) = some (.type "function") ∧ FnOk P w K mg base (L2.CX P w) 1 f fd ntN (spNT (He.ga K "NoText")) ∧ Binds K fd ntN []
def sRaiseR (x : Str) (me : EM) : SM := fun ρ => (me ρ).out fun d ρ1 => .exc ⟨x, [d]⟩ ρ1
section
variable {X : Cx} {W : WX} {e : Expr} {me : EM} {p pos pos2 : Pos} {k : Nat}
theorem ds_raiseR (c : Cd X) (tk : Takes X W) (T : NtF X.prog X.w X.K X.mg X.base) (hr : Room k X.A) (hg : Gl X "NoText") (he : DE X W e me) (hk : 2 ≤ k := by decide)
    (h1 : starEach [e] X.env = (false, eval e X.env) :: starEach [] X.env := by rfl) :
    DS X W (.Raise (some (.Call (.Name "NoText" p) [e] [] pos)) none pos2) (sRaiseR "NoText" me) := by
  obtain ⟨t, pt, s⟩ := he
  obtain ⟨f, fd, iC, tI, F1, hb⟩ := T.ini
  refine ⟨_, ps_raise c.calm tk (pmk_oex (dvs := []) T.o iC tI F1 (hr.mono hk) hb .nil (fun pins σ H s e s' I c => tk e s' (XE.of_call I (fun _ _ _ h => h.elim) c)) hg T.g (pa_cons pt pa_nil h1) (by decide) h1 (by rfl)), fun B M H ρ σ E r h => ?_⟩
  refine s B M H ρ σ _ r (PostS.out h fun d ρ1 M1 H1 v x1 r1 q1 k1 => ?_)
  refine ⟨(by show 1 ≤ 1000; decide), fun a ha => ⟨a, v, rfl, upd_same, fun dx hd ne => ⟨rfl, dx, [("row", v)], upd_same, ?_, ?_, ?_⟩⟩⟩
  · rw [upd_ne ne, upd_same]
  · rwa [upd_ne ne] at hd
  · have hd1 : H1 dx = none := by rwa [upd_ne ne] at hd
    have eH : upd (del (upd (upd (upd H1 a (exo a (He.ga X.K "NoText") none)) dx (exd dx [("row", v)])) a (exo a (He.ga X.K "NoText") (some dx))) a) dx (.xd [("row", v)]) = upd H1 dx (.xd [("row", v)]) := by
      funext b
      by_cases eb : b = dx
      · rw [eb, upd_same, upd_same]
      · rw [upd_ne eb, upd_ne eb]
        by_cases ea : b = a
        · rw [ea, del_same, ha]
        · rw [del_ne ea, upd_ne ea, upd_ne eb, upd_ne ea]
    rw [eH]
    exact k1 M1 _ σ _ (some dx) (Ext.new hd1) (r1.alloc hd1) ⟨He.ga X.K "NoText", T.g, rfl, dx, v, rfl, fun z => r1.trk dx z hd1, upd_same, q1.ext (Ext.new hd1)⟩
end

/-! ### e.row -/
def eRow (i : Nat) : EM := fun ρ => match ρ[i]? with
  | some (.v (.exn c [d])) => if c = "NoText" then .ok d ρ else .bad
  | _ => .bad
/-- the reading -/
def tRow (K : PySem.W.Frag) (te : TE) : TE := fun σ H Q => te σ H fun x H1 => ∃ (a C dd : Addr) (fs : List (Str × V)) (v : V), x = .ref a ∧ H1 a = some (exoD a C dd) ∧ XfC K C ∧ PySem.W.findIn K (.ref C) "row" = some none ∧ H1 dd = some (.xd fs) ∧ fs.lookup ("row" : Str) = some v ∧ Q v H1
theorem pe_row {X : Cx} {e : Expr} {te : TE} {pos : Pos} (he : PE X e te) (hb : attributeBase e "row" X.env (eval e X.env) = eval e X.env := by rfl) : PE X (.Attribute e "row" pos) (tRow X.K te) := by
  refine ⟨fun pins s σ H Q I h => ?_⟩
  refine attr_of hb (thn (he.run pins s σ H _ I h) fun u s1 hh => ?_)
  obtain ⟨x, H1, I1, rx, a, C, dd, fs, v, ex, hA, T, hno, ea, l, q⟩ := hh
  subst ex
  obtain rfl : u = Value.ref a := rx
  obtain ⟨oe, vs, ha, hz, hd⟩ := exoX_at (dx := some dd) I1.hok hA
  have hx : ObjOk X.prog X.w H1 s1.heap dd (.xd fs) := I1.hok dd _ ea
  obtain ⟨mA, hns, hr⟩ := hx
  obtain ⟨od, ho, hl⟩ := lookIn_ns hns
  obtain ⟨u, hu, ru⟩ := RelO.some_of (v := v) (o := mA "row") (by rw [← l]; exact hr "row")
  have J : PySem.W.InstAt s1.heap a oe C (some od) := ⟨ha, hz.1, by unfold PySem.W.notCls; rw [hd] <;> rfl, by rw [hz.2]; exact ho⟩
  exact HandSPX.exc_get I1.kIn J T.ga T.gg T.exC (PySem.W.findObj_own T.hdC hno rfl (by rw [hl, hu])) (handed_of ru) ⟨v, H1, I1.tok _, ru, q⟩
theorem de_row {X : Cx} {W : WX} {i : Nat} {y : Str} {py pos : Pos} (xf : XfC X.K (He.ga X.K "NoText")) (no : PySem.W.findIn X.K (.ref (He.ga X.K "NoText")) "row" = some none) (hv : PE X (.Name y py) (tVar i))
    (hb : attributeBase (.Name y py) "row" X.env (eval (.Name y py) X.env) = eval (.Name y py) X.env := by rfl) : DE X W (.Attribute (.Name y py) "row" pos) (eRow i) := by
  refine ⟨_, pe_row hv hb, fun B M H ρ σ Q rp k => ?_⟩
  unfold eRow at k
  cases es : ρ[i]? with
  | none => rw [es] at k; exact k.elim
  | some sl =>
    rw [es] at k
    cases sl with
    | v d =>
      cases d with
      | exn c fs =>
        cases fs with
        | nil => exact k.elim
        | cons d fs =>
          cases fs with
          | cons _ _ => exact k.elim
          | nil =>
            dsimp only at k
            split at k
            · rename_i ec
              subst ec
              obtain ⟨v, e1, q⟩ := rp.slot i _ es
              cases q with
              | exnR n hA n2 h2 h3 =>
                exact ⟨_, join_of e1, _, _, _, _, _, rfl, hA, xf, no, h2, by simp [List.lookup], k M H _ Ext.refl rp h3⟩
            · exact k.elim
      | _ => exact k.elim
    | _ => exact k.elim
end NV

set_option Elab.async false
set_option linter.all false
set_option maxRecDepth 100000
set_option maxHeartbeats 4000000
/-! Core56: a new house; what is owned is lent to an expression. -/
namespace NV
open PySem PySem.Spec PyProof.Rows L2

/-! ### House(b, n) -/
section
variable {X : Cx} {W : WX} {CX : CXT} {k n : Nat} {f C : Addr} {fd : FuncData} {ps : List Str} {sp : Sp} {E : St → XK} {x : Str} {p pos : Pos} {e : Expr} {es : List Expr} {t : TA}
end
section
variable {X : Cx} {W : WX} {k n : Nat} {p pos : Pos} {e1 e2 : Expr} {ml : Env → Res (List D)} {F : List D → FRes}
end

/-! ### what House.__init__ stores -/
section
variable {X : Cx} {t1 : TT} {t2 : TE} {m1 : TM} {m2 : EM} {vs : List V} {H : Hp} {Q : VK} {E : XK}
end
end NV

set_option Elab.async false
set_option linter.all false
set_option maxRecDepth 100000
set_option maxHeartbeats 4000000
/-! Core57: an own list is walked by a comprehension: it is held meanwhile. -/
namespace NV
open PySem PySem.Spec PyProof.Rows L2
section
variable {K : PySem.W.Frag} {B : Base} {M : Addr → Prop} {H : Hp} {ρ : Env} {σ : St}
end
/-- the iterator yields ds as long as the base is kept -/
def ItOkB (K : PySem.W.Frag) (B : Base) (M0 : Addr → Prop) (H0 : Hp) (J : It) (ds : List D) : Prop :=
  ∀ (M : Addr → Prop) (H : Hp) (ρ : Env) (σ : St), Ext M0 H0 M H → Rep K B M H ρ σ → (∀ i, ds.length ≤ i → J.stop i H) ∧ ∀ i d, ds[i]? = some d → J.go i H ∧ ∀ x H', J.yld i H x H' → (∀ b o, H b = some o → H' b = some o) ∧ Rp K M H' d x
section
variable {X : Cx} {W : WX}
/-- a comprehension behind its iterator -/
theorem comp_core {B : Base} {M1 : Addr → Prop} {H1 : Hp} {ρ1 : Env} {σ : St} {Q : V → Hp → Prop} {J : It} {ds : List D} {g : D → Env → Option Env} {mt : TM} {me : EM} {vs : List Nat} (r1 : Rep X.K B M1 H1 ρ1 σ) (q1 : ItOkB X.K B M1 H1 J ds) (hsz : ds.length ≤ sizeLine)
    (k1 : Post X B W (RelF X.K B σ) M1 H1 σ ((compL g mt me vs ds [] ρ1).bind fun acc ρe => .ok (.lst acc) (backE ρ1 vs (wipeE ρe vs))) Q) : tLc (fun σ H R => R J H) (tgCan X g vs) (ttCan X (fun _ _ _ _ => False) mt) (tCan X (fun _ _ _ _ => False) me) vs σ H1 Q := by
  intro Da hD
  have hbD := r1.base_new (X := X) hD
  have npD := r1.pr_new (X := X) hD
  obtain ⟨T, hT⟩ : ∃ T, T = compL g mt me vs ds [] ρ1 := ⟨_, rfl⟩
  refine ⟨fun i n H' => n = ds.length - i ∧ i ≤ ds.length ∧ ∃ M' ρ' acc accV, Ext M1 H1 M' H' ∧ M' Da ∧ H' Da = some (.lst accV) ∧ RpL X.K M' H' acc accV ∧ acc.length ≤ i ∧ Rep X.K B M' H' (wipeE ρ' vs) (L2.wipe σ vs) ∧
    Anon H' (wipeE ρ' vs) (L2.wipe σ vs) Da ∧ Post X B W (fun _ _ _ _ (_ : Unit) => True) M' H' σ (compL g mt me vs (ds.drop i) acc ρ') (fun _ _ => True) ∧
    (∀ acc' ρe, compL g mt me vs (ds.drop i) acc ρ' = .ok acc' ρe → T = .ok acc' ρe), ⟨_, rfl, Nat.zero_le _, fun b => M1 b ∨ b = Da, ρ1, [], [], Ext.newO hD, .inr rfl, upd_same, .nil, Nat.le_refl _, (r1.allocO hD).wipe vs, (Rep.anon_newU (X := X) r1 hD rfl .self).wipe vs, ?_, fun _ _ e => hT.trans e⟩, ?_⟩
  · have e0 : ds.drop 0 = ds := rfl
    rw [e0]
    cases e : compL g mt me vs ds [] ρ1 with
    | ok a ρe => exact fun _ _ _ _ _ _ => trivial
    | exc x ρe =>
      have noexc : ∀ (ds acc : List D) (ρ : Env) x ρe, compL g mt me vs ds acc ρ ≠ .exc x ρe := by
        intro ds
        induction ds with
        | nil => intro acc ρ x ρe z; cases z
        | cons d ds ih =>
          intro acc ρ x ρe z
          unfold compL at z
          cases eg : g d (wipeE ρ vs) with
          | none => simp only [eg] at z; cases z
          | some ρ2 =>
            simp only [eg] at z
            cases et : mt ρ2 with
            | bad => simp only [et, Res.noexc, Res.bind] at z; cases z
            | exc _ _ => simp only [et, Res.noexc, Res.bind] at z; cases z
            | ok b ρ3 =>
              simp only [et, Res.noexc, Res.bind] at z
              cases b with
              | false => simp only [Bool.false_eq_true, if_false] at z; exact ih _ _ _ _ z
              | true =>
                simp only [if_true] at z
                cases em : me ρ3 with
                | bad => simp only [em] at z; cases z
                | exc _ _ => simp only [em] at z; cases z
                | ok y ρ4 => simp only [em] at z; exact ih _ _ _ _ z
      exact absurd e (noexc ds [] ρ1 x ρe)
    | bad => rw [e] at k1; exact k1.elim
  · rintro i n H2 ⟨rfl, hi, M2, ρ2, acc, accV, x2, mD, hDa, racc, hacc, r2, an2, pk, back⟩
    obtain ⟨stop, go⟩ := q1 M2 H2 _ _ x2 r2
    cases hd : ds[i]? with
    | none =>
      have hl : ds.length ≤ i := List.getElem?_eq_none_iff.mp hd
      rw [List.drop_eq_nil_of_le hl] at back
      refine .inl ⟨stop i hl, ?_⟩
      have e := back acc ρ2 rfl
      rw [← hT, e] at k1
      have rb := r1.back x2 vs r2
      rw [back_wipe] at rb
      refine k1 M2 H2 (.ref Da) x2 rb ⟨Da, rfl, ⟨mD, Nat.le_trans hacc (Nat.le_trans hi hsz), accV, hDa, racc⟩, fun c f => by rw [f.plain hDa rfl]; exact hbD, fun c f => ?_, fun c f => by rw [f.plain hDa rfl]; exact npD⟩
      rw [f.plain hDa rfl]
      intro j s a hj ho hv
      -- the slots of the block are values; the others are as they were
      have key : ∀ us : List Nat, ∀ j s, (backE ρ1 us (wipeE ρ2 vs))[j]? = some s → isOwn s = true → (wipeE ρ2 vs)[j]? = some s ∧ j ∉ us := by
        intro us
        induction us with
        | nil => exact fun j s h _ => ⟨h, by simp⟩
        | cons u us ih =>
          intro j s h ho
          unfold backE at h
          by_cases e : j = u
          · subst e
            by_cases hl : j < (backE ρ1 us (wipeE ρ2 vs)).length
            · rw [List.getElem?_set_self hl] at h
              cases h
              cases q : (ρ1[j]?.getD .no) <;> rw [q] at ho <;> cases ho
            · rw [List.getElem?_eq_none (by simpa using hl)] at h; cases h
          · rw [List.getElem?_set_ne (Ne.symm e)] at h
            obtain ⟨a1, a2⟩ := ih j s h ho
            exact ⟨a1, by simp [e, a2]⟩
      obtain ⟨h1, h2⟩ := key vs j s hj ho
      refine an2 j s a h1 ho ?_
      rw [wipe_out h2]
      exact hv
    | some d =>
      obtain ⟨hl, e⟩ := List.getElem?_eq_some_iff.mp hd
      rw [List.drop_eq_getElem_cons hl, e] at pk back
      obtain ⟨g1, yl⟩ := go i d hd
      refine .inr ⟨g1, fun H' => i + 1 ≤ ds.length ∧ ∃ M' ρ' acc accV, Ext M1 H1 M' H' ∧ M' Da ∧ H' Da = some (.lst accV) ∧ RpL X.K M' H' acc accV ∧ acc.length ≤ i + 1 ∧ Rep X.K B M' H' (wipeE ρ' vs) (L2.wipe σ vs) ∧
        Anon H' (wipeE ρ' vs) (L2.wipe σ vs) Da ∧ Post X B W (fun _ _ _ _ (_ : Unit) => True) M' H' σ (compL g mt me vs (ds.drop (i + 1)) acc ρ') (fun _ _ => True) ∧
        (∀ acc' ρe, compL g mt me vs (ds.drop (i + 1)) acc ρ' = .ok acc' ρe → T = .ok acc' ρe), fun H' z => ⟨ds.length - (i + 1), by omega, rfl, z⟩, fun x H3 hy => ?_⟩
      obtain ⟨keep, rx⟩ := yl x H3 hy
      have xk : Ext M2 H2 M2 H3 := fun b o eb _ => ⟨keep b o eb, fun n => n⟩
      have r3 : Rep X.K (B.with Da (.lst accV)) M2 H3 (wipeE ρ2 vs) (L2.wipe σ vs) := (r2.prot mD hDa an2 hbD).grow xk keep (fun _ z => z) (fun _ z => .inl z) fun b z => by
        cases q : H2 b with
        | none => exact absurd q (r2.trk b z)
        | some o => rw [keep b o q]; simp
      unfold compL at pk back
      cases eg : g d (wipeE ρ2 vs) with
      | none => simp only [eg] at pk; exact pk.elim
      | some ρ3 =>
        simp only [eg] at pk back
        refine ⟨_, M2, _, ρ3, d, r3, rx, eg, fun σ3 r4 on => ⟨wipe_ext on, _, M2, ρ3, r4, ?_⟩⟩
        cases et : mt ρ3 with
        | bad => simp only [et, Res.noexc, Res.bind] at pk; exact pk.elim
        | exc _ _ => simp only [et, Res.noexc, Res.bind] at pk; exact pk.elim
        | ok b ρ4 =>
          simp only [et, Res.noexc, Res.bind] at pk back
          intro M4 H4 b' x4 r5 eb
          cases eb
          have fin : ∀ (ρ5 : Env) (M5 : Addr → Prop) (H5 : Hp) (acc5 : List D) (accV5 : List V), Ext M2 H2 M5 H5 → M5 Da → H5 Da = some (.lst accV5) → RpL X.K M5 H5 acc5 accV5 → acc5.length ≤ i + 1 → Rep X.K B M5 H5 ρ5 σ3 → Anon H5 ρ5 σ3 Da →
              Post X B W (fun _ _ _ _ (_ : Unit) => True) M2 H2 σ (compL g mt me vs (ds.drop (i + 1)) acc5 ρ5) (fun _ _ => True) → (∀ acc' ρe, compL g mt me vs (ds.drop (i + 1)) acc5 ρ5 = .ok acc' ρe → T = .ok acc' ρe) →
              i + 1 ≤ ds.length ∧ ∃ M' ρ' acc accV, Ext M1 H1 M' H5 ∧ M' Da ∧ H5 Da = some (.lst accV) ∧ RpL X.K M' H5 acc accV ∧ acc.length ≤ i + 1 ∧ Rep X.K B M' H5 (wipeE ρ' vs) (L2.wipe σ vs) ∧
                Anon H5 (wipeE ρ' vs) (L2.wipe σ vs) Da ∧ Post X B W (fun _ _ _ _ (_ : Unit) => True) M' H5 σ (compL g mt me vs (ds.drop (i + 1)) acc ρ') (fun _ _ => True) ∧
                (∀ acc' ρe, compL g mt me vs (ds.drop (i + 1)) acc ρ' = .ok acc' ρe → T = .ok acc' ρe) := by
            intro ρ5 M5 H5 acc5 accV5 x5 m5 h5 ra5 l5 r6 an6 pk5 back5
            have rw5 := r6.wipe vs
            have aw5 := an6.wipe vs
            rw [wipe_ext on] at rw5 aw5
            exact ⟨hl, M5, ρ5, acc5, accV5, x2.trans x5, m5, h5, ra5, l5, rw5, aw5, Post.shift x5 pk5, back5⟩
          cases b with
          | false =>
            simp only [Bool.false_eq_true, if_false] at pk back
            obtain ⟨u1, u2, u3, u4⟩ := r5.unprot
            exact iteF (fin ρ4 M4 H4 acc accV (xk.trans x4) u2 u3 (RpL.ext (xk.trans x4) racc) (Nat.le_succ_of_le hacc) u1 u4 pk back)
          | true =>
            simp only [if_true] at pk back
            refine iteT ⟨_, M4, ρ4, r5, ?_⟩
            cases em : me ρ4 with
            | bad => simp only [em] at pk; exact pk.elim
            | exc _ _ => simp only [em] at pk; exact pk.elim
            | ok z ρ5 =>
              simp only [em] at pk back
              intro M5 H5 zv x5 r6 rz
              obtain ⟨u1, u2, u3, u4⟩ := r6.unprot
              have x25 := (xk.trans x4).trans x5
              have lacc := (RpL.length racc)
              refine ⟨accV, u3, by rw [← lacc]; have := hsz; omega, ?_⟩
              have xw : Ext M5 H5 M5 (upd H5 Da (.lst (accV ++ [zv]))) := Ext.write u2 u3 fun z => z
              exact fin ρ5 M5 _ (acc ++ [z]) (accV ++ [zv]) (x25.trans xw) u2 upd_same (RpL.append (RpL.ext (x25.trans xw) racc) (.cons (Rp.ext xw rz) .nil)) (by rw [List.length_append]; exact Nat.succ_le_succ hacc)
                (u1.writeAnon u2 u3 u4 hbD npD fun z => z) u4.write pk back
/-- the own list i is held while a comprehension walks it -/
def eCompO (i : Nat) (g : D → Env → Option Env) (mt : TM) (me : EM) (vs : List Nat) : EM := fun ρ => match ρ[i]? with
  | some s => (match ownD s with
    | some (.lst ds) => (compL g mt me vs ds [] (ρ.set i .no)).bind fun acc ρe => (match (backE (ρ.set i .no) vs (wipeE ρe vs))[i]? with
      | some .no => .ok (.lst acc) ((backE (ρ.set i .no) vs (wipeE ρe vs)).set i s)
      | _ => .bad)
    | _ => .bad)
  | none => .bad
theorem noexc_comp {g : D → Env → Option Env} {mt : TM} {me : EM} {vs : List Nat} : ∀ (ds acc : List D) (ρ : Env) x ρe, compL g mt me vs ds acc ρ ≠ .exc x ρe := by
  intro ds
  induction ds with
  | nil => intro acc ρ x ρe z; cases z
  | cons d ds ih =>
    intro acc ρ x ρe z
    unfold compL at z
    cases eg : g d (wipeE ρ vs) with
    | none => simp only [eg] at z; cases z
    | some ρ2 =>
      simp only [eg] at z
      cases et : mt ρ2 with
      | bad => simp only [et, Res.noexc, Res.bind] at z; cases z
      | exc _ _ => simp only [et, Res.noexc, Res.bind] at z; cases z
      | ok b ρ3 =>
        simp only [et, Res.noexc, Res.bind] at z
        cases b with
        | false => simp only [Bool.false_eq_true, if_false] at z; exact ih _ _ _ _ z
        | true =>
          simp only [if_true] at z
          cases em : me ρ3 with
          | bad => simp only [em] at z; cases z
          | exc _ _ => simp only [em] at z; cases z
          | ok y ρ4 => simp only [em] at z; exact ih _ _ _ _ z
theorem compO_sat {i : Nat} {g : D → Env → Option Env} {mt : TM} {me : EM} {vs : List Nat} :
    Sat X W (fun B σ => RelF X.K B σ) (tLc (iAny X.K (tVar i)) (tgCan X g vs) (ttCan X (fun _ _ _ _ => False) mt) (tCan X (fun _ _ _ _ => False) me) vs) (eCompO i g mt me vs) := by
  intro B M H ρ σ Q rp k
  unfold eCompO at k
  cases es : ρ[i]? with
  | none => rw [es] at k; exact k.elim
  | some s =>
    rw [es] at k
    dsimp only at k
    cases ed : ownD s with
    | none => rw [ed] at k; exact k.elim
    | some d =>
      rw [ed] at k
      cases d with
      | lst ds =>
        dsimp only at k
        obtain ⟨B', a, hv, w, r', hB, hN, hP, back⟩ := rp.hold es ed
        obtain ⟨m, l, us, hH, rl⟩ := w
        obtain ⟨hBa, hPa⟩ := hB a .self
        have it : ItOkB X.K B' M H (Itl X.K a) ds := fun M2 H2 ρ2 σ2 x2 r2 => by
          have h2 : H2 a = some (.lst us) := r2.keep a _ (hBa.trans hH) hPa
          have h' : SqL X.K H2 a us := SqL.of h2
          refine ⟨fun i hi => ⟨us, h', by rw [← rl.length]; exact hi⟩, fun i d hd => ?_⟩
          obtain ⟨v, hv, rv⟩ := rl.get hd
          refine ⟨⟨us, v, h', hv⟩, fun y H3 ⟨e, hy⟩ => ?_⟩
          subst e
          have e2 := hy us h'
          rw [hv] at e2
          cases e2
          exact ⟨fun _ _ z => z, Rp.ext x2 rv⟩
        have core := comp_core (X := X) (W := W) (J := Itl X.K a) (g := g) (mt := mt) (me := me) (vs := vs) (Q := Q) r' it l ?_
        · exact ⟨_, hv, .inl ⟨a, rfl, ⟨us, SqL.of hH⟩, core⟩⟩
        · cases ec : compL g mt me vs ds [] (ρ.set i .no) with
          | bad => rw [ec] at k; exact k.elim
          | exc x ρe => exact absurd ec (noexc_comp ds [] _ x ρe)
          | ok acc ρe =>
            rw [ec] at k
            simp only [Res.bind] at k ⊢
            cases en : (backE (ρ.set i .no) vs (wipeE ρe vs))[i]? with
            | none => rw [en] at k; exact k.elim
            | some sl =>
              rw [en] at k
              cases sl with
              | no =>
                intro M2 H2 b x2 r2 ⟨p, eb, w2, hb, an, np⟩
                have r3 := back M2 H2 _ x2 r2 en
                refine k M2 H2 b x2 r3 ⟨p, eb, w2, fun c f => hN c (hb c f), fun c f j t b2 hj ht hb2 g2 => ?_, fun c f => by rw [← hP]; exact np c f⟩
                rcases set_cases hj with ⟨rfl, rfl, _⟩ | ⟨_, hj⟩
                · rw [hv] at hb2
                  cases hb2
                  have h2 : H2 a = some (.lst us) := r2.keep a _ (hBa.trans hH) hPa
                  have e := g2.plain h2 rfl
                  subst e
                  have z := hb c f
                  rw [hBa, hH] at z
                  cases z
                · exact an c f j t b2 hj ht hb2 g2
              | _ => exact k.elim
      | _ => exact k.elim
theorem df_compO {elt tg : Expr} {x : Str} {px : Pos} {ifs : List Expr} {scope : Scope} {own : List (Str × Nat)} {pos : Pos} {i : Nat} {g : D → Env → Option Env} {mt : TM} {me : EM} {vs : List Nat} (c : Cd X) (hN : X.N.Nodup) (hv : PE X (.Name x px) (tVar i)) (ok : BlkOk X.N X.env.scope scope own)
    (hg : ∀ (s : Shared) (H : Hp) (C : Addr) (cl : List (Str × Addr)) (fp : List Addr), DG (X.blk s H scope (compEnvC scope cl C X.env) fp) tg g vs)
    (ht : ∀ (s : Shared) (H : Hp) (C : Addr) (cl : List (Str × Addr)) (fp : List Addr), DTs (X.blk s H scope (compEnvC scope cl C X.env) fp) (fun _ _ _ _ => False) ifs mt)
    (he : ∀ (s : Shared) (H : Hp) (C : Addr) (cl : List (Str × Addr)) (fp : List Addr), DE (X.blk s H scope (compEnvC scope cl C X.env) fp) (fun _ _ _ _ => False) elt me) (ev : own.map (·.2) = vs := by rfl) (hs : ∀ y, foldedSetIterable (.Name x px) X.env y = pure y := by intro _; rfl) :
    DF X W (.ListComp elt [⟨tg, .Name x px, ifs, 0⟩] scope pos) (eCompO i g mt me vs) := by
  subst ev
  exact ⟨_, pe_lc (tt := ttCan X (fun _ _ _ _ => False) mt) c.calm hN (pi_any hv) ok (fun s H C cl fp => can_g (hg s H C cl fp)) (fun s H C cl fp => ht s H C cl fp) (fun s H C cl fp => can_e (he s H C cl fp)) hs, compO_sat⟩
end
end NV

set_option Elab.async false
set_option linter.all false
set_option maxRecDepth 100000
set_option maxHeartbeats 4000000
/-! Core58: a, b, c = .. : any of them new and owned. -/
namespace NV
open PySem PySem.Spec PyProof.Rows L2
section
variable {K : PySem.W.Frag} {B : Base} {M : Addr → Prop} {H : Hp} {ρ : Env} {σ : St} {d : D} {a : Addr}
end
section
variable {X : Cx} {W : WX} {e : Expr} {es : List Expr} {ks : List Bool} {m : EM} {ms : Env → Res (List D)}
theorem RelP.put {K : PySem.W.Frag} {B : Base} {σ σ' : St} {M : Addr → Prop} {H : Hp} {ρ ρ' : Env} : ∀ {ks : List Bool} {ds : List D} {vs : List V}, RelP K B σ M H ρ ks ds vs →
    (∀ (k : Nat) (a : Addr), ks[k]? = some true → vs[k]? = some (V.ref a) → ∀ c, Foot H a c → Anon H ρ σ c → Anon H ρ' σ' c) → RelP K B σ' M H ρ' ks ds vs
  | [], [], [], _, _ => trivial
  | false :: ks, d :: ds, v :: vs, h, f => ⟨h.1, RelP.put h.2 fun k a hk hv => f (k + 1) a (by simpa using hk) (by simpa using hv)⟩
  | true :: ks, d :: ds, v :: vs, h, f => by
    obtain ⟨⟨a, e, w, h1, h2, h3, h4⟩, h5⟩ := h
    exact ⟨⟨a, e, w, h1, fun c g => f 0 a rfl (by simp [e]) c g (h2 c g), h3, h4⟩, RelP.put h5 fun k a hk hv => f (k + 1) a (by simpa using hk) (by simpa using hv)⟩
end
end NV

set_option Elab.async false
set_option linter.all false
set_option maxRecDepth 100000
set_option maxHeartbeats 4000000
/-! Core59: the head's facts of NoText. -/
namespace NV
open PySem PySem.Spec PyProof.Rows L2

/-- what ok_nt asks of the head -/
structure NtC (K : PySem.W.Frag) (mg : Str → Option Value) : Prop where
  te : TeF K mg "TurnError"
  o : OexC K (He.ga K "NoText")
  no : PySem.W.findIn K (.ref (He.ga K "NoText")) "row" = some none
theorem ntC_of {K : PySem.W.Frag} {h : Heap} {mg : Str → Option Value} (X : K.In h) (G : h.Ns mainGlobals mg) (c : ntB K = true) : NtC K mg := by
  obtain ⟨c1, c⟩ := He.ba c
  obtain ⟨c2, c⟩ := He.ba c
  obtain ⟨c3, c⟩ := He.ba c
  obtain ⟨c4, c⟩ := He.ba c
  obtain ⟨c5, c⟩ := He.ba c
  obtain ⟨c6, c7⟩ := He.ba c
  exact ⟨teF_ok X G c7, oexC_of c2, of_decide_eq_true c3⟩
theorem ntF_of {P : Program} {w : World} {K : PySem.W.Frag} {h : Heap} {mg : Str → Option Value} {base : Heap} {fd : FuncData} (X : K.In h) (G : h.Ns mainGlobals mg) (c : ntB K = true)
    (fn : FnOk P w K mg base (L2.CX P w) 1 (He.ma K (He.ga K "NoText") "__init__") fd ntN (spNT (He.ga K "NoText"))) (b : Binds K fd ntN []) : NtF P w K mg base := by
  obtain ⟨c1, c⟩ := He.ba c
  obtain ⟨c2, c⟩ := He.ba c
  obtain ⟨c3, c⟩ := He.ba c
  obtain ⟨c4, c⟩ := He.ba c
  obtain ⟨c5, c⟩ := He.ba c
  obtain ⟨c6, c7⟩ := He.ba c
  have M := He.meth_ok c5
  exact ⟨He.glo_ok X G c1, oexC_of c2, of_decide_eq_true c3, xfB_ok c4, He.exm_ok c6, _, fd, M.at_, beq_iff_eq.mp M.fn, fn, b⟩
theorem NtF.tryN {P : Program} {w : World} {K : PySem.W.Frag} {mg : Str → Option Value} {base : Heap} (T : NtF P w K mg base) : ∀ y ∈ (["NoText"] : List Str), mg y = some (.ref (He.ga K y)) ∧ PySem.W.exmOne K (.ref (He.ga K y)) (.ref (He.ga K "NoText")) = some true := fun y hy => by
  cases List.mem_singleton.mp hy
  exact ⟨T.g, T.exm⟩
end NV

set_option Elab.async false
set_option linter.all false
set_option maxRecDepth 100000
set_option maxHeartbeats 4000000
/-! Core60: the head's look with the table of the interpreter's own statics (readsIn looks there). -/
namespace NV
open PySem PySem.Spec PyProof.Rows L2
end NV

set_option Elab.async false
set_option linter.all false
set_option maxRecDepth 100000
set_option maxHeartbeats 8000000
/-! Core61: sorted(set(list of small ints)). -/
namespace NVT
open PySem PySem.Spec PyProof PyProof.Rows L2
section
variable {P : Program} {w : World} {A : Around} {E : Value → Shared → Prop} {s : Shared}
def emI (w : World) : Obj := { cls := .type "set", dict := none, data := .set #[] 0 (.fresh 0 0 (!w.params.followText "set-order")) }
theorem setI_list {src : Addr} {arr : Array Value} {xs : List Int} {R : Value → Shared → Prop} (calm : A.handled = none) (isSrc : s.heap.IsList src arr) (sz : arr.size = xs.length)
    (vals : ∀ (i : Nat) (u : Value), arr[i]? = some u → ∃ x t, xs[i]? = some x ∧ u = .int x t) (few : xs.length + 1 < scanBound)
    (done : ∀ (g : Heap) (k c : Nat), SetR w g s.heap.objs.size (fun y => decide (y ∈ xs)) c → c ≤ xs.length →
      (∀ b ob, s.heap.get? b = some ob → g.get? b = some ob) → R (.ref s.heap.objs.size) { s with heap := g, toks := k }) :
    wpAny (model P w) A (call (.type "set") [.ref src]) R E s := by
  obtain ⟨m1, m2, m3⟩ := F.called_set.mro
  have m4 := F.called_set.made
  have m5 := F.called_set.sub
  refine wpAny_call (codeAny_of_tree ?_)
  show wpAny _ _ (callAny (.type "set") _) _ _ _
  refine wpAny_pure ⟨Code.quiet_builtin _ (by decide +kernel), codeAny_builtin F.entry_type_call ?_⟩
  rw [Around.under_plain (weight_type_call_type "set" [.ref src] []) rfl]
  have m6 := F.called_set.notType
  have m7 := F.called_set.canCreate
  have m8 := F.typeCall_set_1 (.ref src)
  repeat (any_goals (first | assumption | wp_step))
  refine codeAny_mono (code_set_led1 (.ref src) (E := E) (Q₁ := fun obj s₁ => obj = .ref s.heap.objs.size ∧ s₁ = { s with heap := s.heap.push (emI w) }) ⟨rfl, rfl⟩) fun z st1 hz => ?_
  cases z with
  | error e => exact hz
  | ok fl =>
    cases fl with
    | ret ob =>
      obtain ⟨rfl, rfl⟩ := hz
      have at1 : (s.heap.push (emI w)).get? s.heap.objs.size = some (emI w) := Heap.get?_push_size _ rfl
      have ty1 : Shared.TypeIs { s with heap := s.heap.push (emI w) } (.ref s.heap.objs.size) "set" := ⟨_, at1, rfl⟩
      have m9 := F.called_set.init.lookup
      have m10 := F.called_set.init.bind (.ref s.heap.objs.size)
      repeat (any_goals (first | assumption | wp_step))
      refine codeAny_mono (codeAny_call_builtin (R := wants (fun z st2 => z = .none ∧ ∃ g k c, st2 = { s with heap := g, toks := k } ∧ SetR w g s.heap.objs.size (fun y => decide (y ∈ xs)) c ∧ c ≤ xs.length ∧
          (∀ b ob, s.heap.get? b = some ob → g.get? b = some ob)) E) F.called_set.init.plain F.entry_set_init (check_set_init_1 ty1 ?_)) fun z2 st2 hz2 => ?_
      · obtain ⟨os, hos, cs, ns, ds⟩ := isSrc
        obtain ⟨q1, q2, q3, q4⟩ := os
        simp only at cs ds
        subst cs; subst ds
        have at2 : (s.heap.push (emI w)).get? src = some { cls := .type "list", dict := q2, data := .seq arr ns, slots := q4 } := Heap.get?_push_of_some _ hos
        have m11 := F.sub_list_set
        have m12 := F.sub_list_frozenset
        have m13 : (Value.type "list" == Value.type "dict") = false := by decide
        have is2 : (s.heap.push (emI w)).IsList src arr := ⟨_, at2, rfl, ns, rfl⟩
        unfold Builtin.«set.__init__» noKeywords Builtin.Frozenset.updateFrom
        generalize hPI : pyIter = PI
        wp_walk
        subst hPI
        refine wpAny_pyIter_list is2 ?_
        refine wpAny_bind (wpAny_runValue ?_)
        have lt : src < s.heap.objs.size := Heap.lt_size hos
        have c3 : A.in1.in1.in1.handled = none := by simp [calm]
        have ne1 : src ≠ (s.heap.push (emI w)).objs.size := by
          rw [Heap.size_push]; exact Nat.ne_of_lt (Nat.lt_succ_of_lt lt)
        have ne2 : s.heap.objs.size ∉ [(s.heap.push (emI w)).objs.size, src] := by
          rw [Heap.size_push]; simp only [List.mem_cons, List.mem_singleton, List.not_mem_nil, or_false, not_or]
          exact ⟨Nat.ne_of_lt (Nat.lt_succ_self _), Nat.ne_of_gt lt⟩
        refine set_update_ints (n := arr.size) ((Walks.list c3 _ src ne1 arr).toS) s.heap.objs.size ne2 xs sz (by omega) vals (arr.size - 0) 0 _ (by omega) (Nat.zero_le _) ⟨⟨_, Heap.get?_push_size _ rfl, rfl, rfl⟩, (is2.push _)⟩ ?start ?stop
        case start =>
          have at3 : ((s.heap.push (emI w)).push { cls := .type "list_iterator", data := .fields #[.ref src, .int 0 0] }).get? s.heap.objs.size = some (emI w) := Heap.get?_push_of_some _ at1
          exact ⟨0, Nat.le_refl 0, setR_new_at at3⟩
        case stop =>
          intro st3 c mv hc hS
          obtain ⟨g, g2, d2, k2, o2⟩ := st3
          have e1 : g2 = s.gens := mv.gens
          have e2 : d2 = s.drawn := mv.drawn
          have e3 : o2 = s.os := mv.os
          subst e1; subst e2; subst e3
          show wpAny _ _ _ _ _ _
          refine wpAny_pure ?_
          show wpAny _ _ (ret Value.none) _ _ _
          rw [sz] at hc
          refine wpAny_pure ⟨rfl, g, k2, c, rfl, hS, hc, fun b ob e => ?_⟩
          have hb := Heap.lt_size e
          have n1 : b ≠ s.heap.objs.size := Nat.ne_of_lt hb
          have n2 : b ≠ (s.heap.push (emI w)).objs.size := by
            rw [Heap.size_push]; exact Nat.ne_of_lt (Nat.lt_succ_of_lt hb)
          exact mv.heap b ob (by simp only [List.mem_cons, List.mem_singleton, List.not_mem_nil, or_false, not_or]; exact ⟨n1, n2⟩) (Heap.get?_push_of_some _ (Heap.get?_push_of_some _ e))
      · cases z2 with
        | error e => exact hz2
        | ok fl2 =>
          cases fl2 with
          | ret z3 =>
            obtain ⟨rfl, g, k, c, rfl, hS, hc, hk⟩ := hz2
            repeat (any_goals (first | assumption | wp_step))
            exact done _ _ _ hS hc hk
          | _ => exact hz2.elim
    | _ => exact hz.elim

end
theorem nodup_lenK {α : Type} [DecidableEq α] : ∀ (l m : List α), l.Nodup → (∀ x ∈ l, x ∈ m) → l.length ≤ m.length
  | [], _, _, _ => Nat.zero_le _
  | x :: l, m, hd, hs => by
    obtain ⟨h1, h2⟩ := List.nodup_cons.mp hd
    have hx := hs x List.mem_cons_self
    have ih := nodup_lenK l (m.erase x) h2 fun y hy => (List.mem_erase_of_ne (fun e : y = x => h1 (e ▸ hy))).mpr (hs y (List.mem_cons_of_mem _ hy))
    have hl := List.length_erase_of_mem hx
    have : 0 < m.length := List.length_pos_of_mem hx
    rw [List.length_cons]
    omega
theorem setR_small {w : World} {h : Heap} {a : Addr} {S : Int → Bool} {n : Nat} (R : SetR w h a S n) (hS : ∀ k, S k = true → 0 ≤ k ∧ k < 60) : n < 64 := by
  obtain ⟨o, es, ep, t, ho, hex, hd, g, nd, hm, hb, hf, hn, hr, hl⟩ := R
  have := nodup_lenK (es.toList.map keyOf) ((List.range 60).map fun i : Nat => (i : Int)) nd fun x hx => by
    have := hS x ((hm x).mpr hx)
    exact List.mem_map.mpr ⟨x.toNat, List.mem_range.mpr (by omega), by omega⟩
  rw [List.length_map, List.length_map, List.length_range, Array.length_toList, hn] at this
  omega
end NVT
namespace NV
open PySem PySem.Spec PyProof.Rows L2
section
variable {X : Cx} {W : WX} {a : Expr} {p p2 q pos apos cpos : Pos}
def tSortI (K : PySem.W.Frag) (ta : TE) : TE := fun σ H Q => ta σ H fun x H1 => ∃ (l : Addr) (ns : List Int), x = .ref l ∧ SqL K H1 l (ns.map V.int) ∧ ns.length < 4000 ∧ (∀ k ∈ ns, 0 ≤ k ∧ k < 60) ∧ ∀ p, H1 p = none → Q (.ref p) (upd H1 p (.lst ((sortU ns).map V.int)))
theorem pe_sortI {ta : TE} (hc : X.calm = true) (hg : Gl X "sorted") (hm : X.mg "sorted" = none) (hg2 : Gl X "set") (hm2 : X.mg "set" = none) (hv : bootBuiltins "sorted" = some (.builtin "sorted")) (ha : PE X a ta)
    (na : starEach [a] X.env = (false, eval a X.env) :: starEach [] X.env := by rfl) : PE X (.Call (.Name "sorted" p) [.Call (.Name "set" p2) [a] [] q] [] pos) (tSortI X.K ta) := by
  refine ⟨fun pins s σ H Q I h => ?_⟩
  refine Call_ (ld_blt I hg hm hv (PyProof.Rows.callWith_builtin1 (PyProof.Rows.args_cons ?_ rfl) rfl rfl))
  refine Call_ (ld_blt I hg2 hm2 PyProof.Rows.boot_set (PyProof.Rows.callWith_type1 (PyProof.Rows.args_cons (thn (ha.run pins s σ H _ I h) fun v s1 ⟨x, H1, I1, r1, q1⟩ => PyProof.Rows.args_nil ?_) na) na rfl))
  obtain ⟨l, ns, rfl, hq, few, sml, q1⟩ := q1
  cases r1
  obtain ⟨its, r, pl, hz⟩ := I1.list hq
  have hsl : its.length = ns.length := by
    have := r.length
    rw [List.length_map] at this
    exact this.symm
  refine NVT.setI_list (xs := ns) (I1.ok.hd hc) pl.isList (by rw [List.size_toArray]; exact hsl) (fun i u hu => ?_) (by unfold scanBound; omega) fun g k c R hc' hk => PyProof.Rows.args_nil ?_
  · have hi : i < ns.length := by
      rw [← hsl]
      have := (Array.getElem?_eq_some_iff.mp hu).1
      rw [List.size_toArray] at this
      exact this
    obtain ⟨w, hw, rw'⟩ := r.get (i := i) (x := V.int ns[i]) (by rw [List.getElem?_map, List.getElem?_eq_getElem hi]; rfl)
    obtain ⟨t, et⟩ := rw'
    refine ⟨ns[i], t, List.getElem?_eq_getElem hi, ?_⟩
    rw [List.getElem?_toArray] at hu
    rw [hw] at hu
    rw [← et]
    exact (Option.some.inj hu).symm
  · have I2 : Inv X pins σ H1 { s1 with heap := g, toks := k } := I1.kept hk
    refine sorted_set R (I1.ok.hd hc) (NVT.setR_small R fun k hk => sml k (of_decide_eq_true hk)) fun s' p out c2 ms kp gg o hp hat hi hs hmem hl => ?_
    have em : ms = sortU ns := lt_unique hs (sortU_sorted ns) fun z => by
      rw [hmem z, sortU_mem]
      exact decide_eq_true_iff
    subst em
    have hlen : ((sortU ns).map V.int).length ≤ sizeLine := by rw [List.length_map, hl, sizeLine_eq]; omega
    have hn : H1 p = none := I2.hok.fresh hp
    generalize hs2 : ({ s1 with heap := g, toks := k } : Shared) = s2 at *
    have J : Inv X pins σ (upd H1 p (.lst ((sortU ns).map V.int))) { s2 with heap := s'.heap, gens := s'.gens, drawn := s'.drawn, toks := s'.toks } :=
      I2.call (ch := []) (Un.laid kp hp hn) (I2.hok.laid kp hp ⟨hlen, out.toList, c2, vals_of_ints hi, hat⟩) (by rw [gg]; exact I2.bare) (fun _ z => nomatch z)
    have e : s' = { s2 with heap := s'.heap, gens := s'.gens, drawn := s'.drawn, toks := s'.toks } := by
      cases s'
      cases s2
      cases o
      rfl
    rw [e]
    exact ⟨.ref p, _, J, rfl, q1 p hn⟩
def eSortI (m : EM) : EM := fun ρ => (m ρ).bind fun d ρ1 => match d with
  | .lst ds => (ofO (intsOf ds) ρ1).bind fun ns _ => if ns.length < 4000 ∧ (ns.all fun k => decide (0 ≤ k) && decide (k < 60)) = true then .ok (.lst ((sortU ns).map D.int)) ρ1 else .bad
  | _ => .bad
theorem df_sortI {m : EM} (c : Cd X) (hg : Gl X "sorted") (hm : X.mg "sorted" = none) (hg2 : Gl X "set") (hm2 : X.mg "set" = none) (hv : bootBuiltins "sorted" = some (.builtin "sorted")) (h : DE X W a m) (na : starEach [a] X.env = (false, eval a X.env) :: starEach [] X.env := by rfl) : DF X W (.Call (.Name "sorted" p) [.Call (.Name "set" p2) [a] [] q] [] pos) (eSortI m) := by
  obtain ⟨t, pt, s⟩ := h
  refine ⟨_, pe_sortI c.calm hg hm hg2 hm2 hv pt na, fun B M H ρ σ Q rp k => s B M H ρ σ _ rp (Post.seq k fun d ρ1 M1 H1 v x1 r1 q1 k1 => ?_)⟩
  cases d with
  | lst ds =>
    simp only at k1
    cases e : intsOf ds with
    | none => rw [e] at k1; exact k1.elim
    | some ns =>
      rw [e] at k1
      simp only [ofO, Res.bind] at k1
      split at k1
      · rename_i hl
        cases q1 with
        | lst l h0 h1 h2 =>
          obtain ⟨e1, _⟩ := ints_rpl (X := X) e h2
          subst e1
          exact ⟨_, ns, rfl, .inl (.inl h1), hl.1, fun k hk => by have := List.all_eq_true.mp hl.2 k hk; simpa using this, fun p hp => post_o k1 r1 (rpl_ints _) (by rw [List.length_map, sizeLine_eq]; have := sortU_len ns; omega) hp⟩
      · exact k1.elim
  | _ => exact k1.elim
end
end NV

set_option Elab.async false
set_option linter.all false
set_option maxRecDepth 100000
set_option maxHeartbeats 4000000
/-! Ev: reckoning with the plain functions. -/
namespace NV
open PySem PySem.Spec PyProof.Rows L2
section
variable {α β : Type}
@[simp] theorem bind_ok' (a : α) (ρ : Env) (f : α → Env → Res β) : (Res.ok a ρ).bind f = f a ρ := rfl
@[simp] theorem bind_exc' (x : Exn) (ρ : Env) (f : α → Env → Res β) : (Res.exc x ρ).bind f = .exc x ρ := rfl
@[simp] theorem bind_bad' (f : α → Env → Res β) : (Res.bad).bind f = .bad := rfl
@[simp] theorem out_ok' (a : α) (ρ : Env) (f : α → Env → Out) : (Res.ok a ρ).out f = f a ρ := rfl
@[simp] theorem out_exc' (x : Exn) (ρ : Env) (f : α → Env → Out) : (Res.exc x ρ : Res α).out f = .exc x ρ := rfl
@[simp] theorem out_bad' (f : α → Env → Out) : (Res.bad : Res α).out f = .bad := rfl
@[simp] theorem ofO_some' (a : α) (ρ : Env) : ofO (some a) ρ = .ok a ρ := rfl
@[simp] theorem ofO_none' (ρ : Env) : ofO (none : Option α) ρ = .bad := rfl
@[simp] theorem noexc_ok (a : α) (ρ : Env) : (Res.ok a ρ).noexc = .ok a ρ := rfl
end
@[simp] theorem oseq_nx (ρ : Env) (f : SM) : (Out.nx ρ).seq f = f ρ := rfl
@[simp] theorem oseq_rt (d : D) (ρ : Env) (f : SM) : (Out.rt d ρ).seq f = .rt d ρ := rfl
@[simp] theorem oseq_rtF (d : D) (ρ : Env) (f : SM) : (Out.rtF d ρ).seq f = .rtF d ρ := rfl
@[simp] theorem oseq_bk (ρ : Env) (f : SM) : (Out.bk ρ).seq f = .bk ρ := rfl
@[simp] theorem oseq_ct (ρ : Env) (f : SM) : (Out.ct ρ).seq f = .ct ρ := rfl
@[simp] theorem oseq_exc (x : Exn) (ρ : Env) (f : SM) : (Out.exc x ρ).seq f = .exc x ρ := rfl
@[simp] theorem sSeq_eq (a b : SM) (ρ : Env) : sSeq a b ρ = (a ρ).seq b := rfl
@[simp] theorem sNil_eq (ρ : Env) : sNil ρ = .nx ρ := rfl
@[simp] theorem sSet_eq (i : Nat) (m : EM) (ρ : Env) : sSet i m ρ = (m ρ).out fun d ρ1 => .nx (ρ1.set i (.v d)) := rfl
@[simp] theorem sParE_eq (i j : Nat) (m : EM) (d : D) (ρ : Env) : sParE i j m d ρ = (m ρ).out fun x ρ1 => .nx ((ρ1.set i (.v x)).set j (.o d)) := rfl
@[simp] theorem sParE3_eq (i j l : Nat) (m : EM) (d e : D) (ρ : Env) : sParE3 i j l m d e ρ = (m ρ).out fun x ρ1 => .nx (((ρ1.set i (.v x)).set j (.o d)).set l (.o e)) := rfl
@[simp] theorem sSetO_eq (i : Nat) (m : EM) (ρ : Env) : sSetO i m ρ = (m ρ).out fun d ρ1 => .nx (ρ1.set i (.o d)) := rfl
@[simp] theorem sRet_eq (m : EM) (ρ : Env) : sRet m ρ = (m ρ).out fun d ρ1 => .rt d ρ1 := rfl
@[simp] theorem sRetF_eq (m : EM) (ρ : Env) : sRetF m ρ = (m ρ).out fun d ρ1 => .rtF d ρ1 := rfl
@[simp] theorem sRetN_eq (ρ : Env) : sRetN ρ = .rt .non ρ := rfl
@[simp] theorem sIf_eq (c : TM) (a b : SM) (ρ : Env) : sIf c a b ρ = (c ρ).out fun k ρ1 => if k then a ρ1 else b ρ1 := rfl
@[simp] theorem sDrop_eq (m : EM) (ρ : Env) : sDrop m ρ = (m ρ).out fun _ ρ1 => .nx ρ1 := rfl
@[simp] theorem sFor_eq (mi : Env → Res (List D)) (g : D → Env → Option Env) (b : SM) (ρ : Env) : sFor mi g b ρ = (mi ρ).out fun ds ρ1 => forL g b ds ρ1 := rfl
@[simp] theorem eVar_eq (i : Nat) (ρ : Env) : eVar i ρ = match ρ[i]? with
  | some (.v d) => .ok d ρ
  | _ => .bad := rfl
@[simp] theorem rVar_eq (i : Nat) (ρ : Env) : rVar i ρ = match ρ[i]? with
  | some (.v d) => .ok (.val d) ρ
  | some (.o _) => .ok (.own i) ρ
  | some (.p _) => .ok (.own i) ρ
  | _ => .bad := rfl
@[simp] theorem rOf_eq (m : EM) (ρ : Env) : rOf m ρ = (m ρ).bind fun d ρ' => .ok (.val d) ρ' := rfl
@[simp] theorem eC_eq (d : D) (ρ : Env) : eC d ρ = .ok d ρ := rfl
@[simp] theorem get_val (d : D) (ρ : Env) : (RV.val d).get ρ = some d := rfl
@[simp] theorem get_own (i : Nat) (ρ : Env) : (RV.own i).get ρ = match ρ[i]? with
  | some (.o d) => some d
  | some (.p d) => some d
  | _ => none := rfl
@[simp] theorem eOp2_eq (f : D → D → Option D) (ma mb : RM) (ρ : Env) : eOp2 f ma mb ρ = (ma ρ).bind fun x ρ1 => (mb ρ1).bind fun y ρ2 => (ofO (x.get ρ2) ρ2).bind fun d _ => (ofO (y.get ρ2) ρ2).bind fun e _ => ofO (f d e) ρ2 := rfl
@[simp] theorem eChain_eq (f g : D → D → Option D) (ma mb mc : RM) (ρ : Env) : eChain f g ma mb mc ρ = (ma ρ).bind fun x ρ1 => (mb ρ1).bind fun y ρ2 => (ofO (x.get ρ2) ρ2).bind fun d _ => (ofO (y.get ρ2) ρ2).bind fun e _ =>
  (ofO (f d e) ρ2).bind fun z _ => (asB z ρ2).bind fun k _ => if k then (mc ρ2).bind fun w ρ3 => (ofO (y.get ρ3) ρ3).bind fun e' _ => (ofO (w.get ρ3) ρ3).bind fun h _ => ofO (g e' h) ρ3 else .ok (.bl false) ρ2 := rfl
@[simp] theorem tOfE_eq (m : EM) (ρ : Env) : tOfE m ρ = (m ρ).bind asB := rfl
@[simp] theorem asB_bl' (b : Bool) (ρ : Env) : asB (.bl b) ρ = .ok b ρ := rfl
@[simp] theorem tAndM_eq (ma mb : TM) (ρ : Env) : tAndM ma mb ρ = (ma ρ).bind fun k ρ1 => if k then mb ρ1 else .ok false ρ1 := rfl
@[simp] theorem tOrM_eq (ma mb : TM) (ρ : Env) : tOrM ma mb ρ = (ma ρ).bind fun k ρ1 => if k then .ok true ρ1 else mb ρ1 := rfl
@[simp] theorem tNotM_eq (ma : TM) (ρ : Env) : tNotM ma ρ = (ma ρ).bind fun k ρ1 => .ok (!k) ρ1 := rfl
@[simp] theorem tYesM_eq (ρ : Env) : tYesM ρ = .ok true ρ := rfl
@[simp] theorem eIf_eq (mc : TM) (ma mb : EM) (ρ : Env) : eIf mc ma mb ρ = (mc ρ).bind fun k ρ1 => if k then ma ρ1 else mb ρ1 := rfl
@[simp] theorem eAnd_eq (ma mb : EM) (ρ : Env) : eAnd ma mb ρ = (ma ρ).bind fun d ρ1 => (ofO (truthy d) ρ1).bind fun k _ => if k then mb ρ1 else .ok d ρ1 := rfl
@[simp] theorem eOr_eq (ma mb : EM) (ρ : Env) : eOr ma mb ρ = (ma ρ).bind fun d ρ1 => (ofO (truthy d) ρ1).bind fun k _ => if k then .ok d ρ1 else mb ρ1 := rfl
@[simp] theorem eNot_eq (ma : EM) (ρ : Env) : eNot ma ρ = (ma ρ).bind fun d ρ1 => (ofO (truthy d) ρ1).bind fun k _ => .ok (.bl (!k)) ρ1 := rfl
@[simp] theorem truthy_bl (b : Bool) : truthy (.bl b) = some b := rfl
@[simp] theorem truthy_non : truthy .non = some false := rfl
@[simp] theorem truthy_int (i : Int) : truthy (.int i) = some (i != 0) := rfl
@[simp] theorem truthy_tup (xs : List D) : truthy (.tup xs) = some (!xs.isEmpty) := rfl
@[simp] theorem truthy_lst (xs : List D) : truthy (.lst xs) = some (!xs.isEmpty) := rfl
@[simp] theorem lNil_eq (ρ : Env) : lNil ρ = .ok [] ρ := rfl
@[simp] theorem lCons_eq (m : EM) (ms : Env → Res (List D)) (ρ : Env) : lCons m ms ρ = (m ρ).bind fun d ρ1 => (ms ρ1).bind fun ds ρ2 => .ok (d :: ds) ρ2 := rfl
@[simp] theorem aNil_eq (ρ : Env) : aNil ρ = .ok [] ρ := rfl
@[simp] theorem aCons_eq (m : RM) (ms : AM) (ρ : Env) : aCons m ms ρ = (m ρ).bind fun d ρ1 => (ms ρ1).bind fun ds ρ2 => .ok (d :: ds) ρ2 := rfl
@[simp] theorem eTup_eq (m : Env → Res (List D)) (ρ : Env) : eTup m ρ = (m ρ).bind fun ds ρ1 => if ds.length ≤ 16777216 then .ok (.tup ds) ρ1 else .bad := by
  unfold eTup
  rw [sizeLine_eq]
@[simp] theorem eLst_eq (m : Env → Res (List D)) (ρ : Env) : eLst m ρ = (m ρ).bind fun ds ρ1 => if ds.length ≤ 16777216 then .ok (.lst ds) ρ1 else .bad := by
  unfold eLst
  rw [sizeLine_eq]
@[simp] theorem getAll_nil (ρ : Env) : getAll ρ [] = some [] := rfl
@[simp] theorem getAll_cons (ρ : Env) (r : RV) (rs : List RV) : getAll ρ (r :: rs) = match r.get ρ, getAll ρ rs with
  | some d, some ds => some (d :: ds)
  | _, _ => none := rfl
@[simp] theorem eCallB_eq (f : List D → Option D) (ma : AM) (ρ : Env) : eCallB f ma ρ = (ma ρ).bind fun rs ρ1 => (ofO (getAll ρ1 rs) ρ1).bind fun ds _ => ofO (f ds) ρ1 := rfl
@[simp] theorem eIsT_eq (T : TyN) (m : RM) (ρ : Env) : eIsT T m ρ = (m ρ).bind fun x ρ1 => (ofO (x.get ρ1) ρ1).bind fun d _ => ofO (isT T d) ρ1 := rfl
@[simp] theorem eCall_eq (fl : List Bool) (fr : Bool) (F : List D → FRes) (ma : AM) (ρ : Env) : eCall fl fr F ma ρ = (ma ρ).bind (callG fl fr F) := rfl
@[simp] theorem iVal_eq (m : EM) (ρ : Env) : iVal m ρ = (m ρ).bind fun d ρ1 => ofO (itemsD d) ρ1 := rfl
@[simp] theorem iRange1_eq (m : EM) (ρ : Env) : iRange1 m ρ = (m ρ).bind fun d ρ1 => ofO (rng1 d) ρ1 := rfl
@[simp] theorem iRange2_eq (m1 m2 : EM) (ρ : Env) : iRange2 m1 m2 ρ = (m1 ρ).bind fun d ρ1 => (m2 ρ1).bind fun e ρ2 => ofO (rng2 d e) ρ2 := rfl
@[simp] theorem gRg1_eq (m : EM) (ρ : Env) : gRg1 m ρ = (m ρ).bind fun d ρ1 => match d with
  | .int i => .ok ((0 : Int), i) ρ1
  | _ => .bad := rfl
@[simp] theorem ownGet_eq (ρ : Env) (i : Nat) : ownGet ρ i = (RV.own i).get ρ := rfl
@[simp] theorem eComp_eq (mi : Env → Res (List D)) (g : D → Env → Option Env) (mt : TM) (me : EM) (vs : List Nat) (ρ : Env) : eComp mi g mt me vs ρ = (mi ρ).bind fun ds ρ1 => (compL g mt me vs ds [] ρ1).bind fun acc ρe => .ok (.lst acc) (backE ρ1 vs (wipeE ρe vs)) := rfl
@[simp] theorem gNm_eq (i : Nat) (d : D) (ρ : Env) : gNm i d ρ = some (ρ.set i (.v d)) := rfl
@[simp] theorem itemsD_tup (xs : List D) : itemsD (.tup xs) = some xs := rfl
@[simp] theorem itemsD_lst (xs : List D) : itemsD (.lst xs) = some xs := rfl
@[simp] theorem addD_int (i j : Int) : addD (.int i) (.int j) = some (.int (i + j)) := rfl
@[simp] theorem subD_int (i j : Int) : subD (.int i) (.int j) = some (.int (i - j)) := rfl
@[simp] theorem lt2_int (i j : Int) : lt2 (.int i) (.int j) = some (.bl (decide (i < j))) := rfl
@[simp] theorem gt2_int (i j : Int) : gt2 (.int i) (.int j) = some (.bl (decide (j < i))) := rfl
@[simp] theorem le2_int (i j : Int) : le2 (.int i) (.int j) = some (.bl (decide (i ≤ j))) := rfl
@[simp] theorem ge2_int (i j : Int) : ge2 (.int i) (.int j) = some (.bl (decide (j ≤ i))) := rfl
theorem modD_int {i j : Int} (h : 0 < j) : modD (.int i) (.int j) = some (.int (i % j)) := by
  show (if 0 < j then some (D.int (i % j)) else none) = _
  rw [if_pos h]
theorem fdivD_int {i j : Int} (h : 0 < j) (h2 : j < 1073741824) : fdivD (.int i) (.int j) = some (.int (i / j)) := by
  show (if CDiv i j then some (D.int (i / j)) else none) = _
  rw [if_pos ⟨h, h2⟩]
theorem mulD_int {i j : Int} (h : (-18446744073709551616 < i ∧ i < 18446744073709551616) ∨ (-18446744073709551616 < j ∧ j < 18446744073709551616)) : mulD (.int i) (.int j) = some (.int (i * j)) := by
  have h' : CMul i j := by unfold CMul; omega
  show (if CMul i j then some (D.int (i * j)) else none) = _
  rw [if_pos h']
theorem eqD_int (i j : Int) : eqD (.int i) (.int j) = decide (i = j) := by
  unfold eqD
  simp only [toPy, PyData.eqv]
  by_cases h : i = j <;> simp [h]
@[simp] theorem eqO_int (i j : Int) : eqO (.int i) (.int j) = some (.bl (decide (i = j))) := by
  show (if okD 60 (.int i) = true ∧ okD 60 (.int j) = true then some (D.bl (eqD (.int i) (.int j))) else none) = _
  rw [if_pos ⟨rfl, rfl⟩, eqD_int]
@[simp] theorem neO_int (i j : Int) : neO (.int i) (.int j) = some (.bl (!decide (i = j))) := by
  show (if okD 60 (.int i) = true ∧ okD 60 (.int j) = true then some (D.bl (!eqD (.int i) (.int j))) else none) = _
  rw [if_pos ⟨rfl, rfl⟩, eqD_int]
theorem eqD_bl (i j : Bool) : eqD (.bl i) (.bl j) = decide (i = j) := by
  unfold eqD
  simp only [toPy, PyData.eqv]
  cases i <;> cases j <;> rfl
@[simp] theorem eqO_bl (i j : Bool) : eqO (.bl i) (.bl j) = some (.bl (decide (i = j))) := by
  show (if okD 60 (.bl i) = true ∧ okD 60 (.bl j) = true then some (D.bl (eqD (.bl i) (.bl j))) else none) = _
  rw [if_pos ⟨rfl, rfl⟩, eqD_bl]
@[simp] theorem neO_bl (i j : Bool) : neO (.bl i) (.bl j) = some (.bl (!decide (i = j))) := by
  show (if okD 60 (.bl i) = true ∧ okD 60 (.bl j) = true then some (D.bl (!eqD (.bl i) (.bl j))) else none) = _
  rw [if_pos ⟨rfl, rfl⟩, eqD_bl]
@[simp] theorem isD_bl (d : D) (b : Bool) : isD d (.bl b) = some (.bl (isBl b d)) := rfl
@[simp] theorem isD_non (d : D) : isD d .non = some (.bl (isNon d)) := rfl
@[simp] theorem isntD_bl (d : D) (b : Bool) : isntD d (.bl b) = some (.bl (!isBl b d)) := rfl
@[simp] theorem isntD_non (d : D) : isntD d .non = some (.bl (!isNon d)) := rfl
@[simp] theorem isBl_bl (a b : Bool) : isBl b (.bl a) = decide (a = b) := by
  unfold isBl
  cases a <;> cases b <;> rfl
@[simp] theorem ixN_lit0 (n : Nat) : ixN (n + 1) 0 = some 0 := by
  unfold ixN
  simp <;> omega
/-! ### a def's answer -/
@[simp] theorem runF_eq (fl : List Bool) (n : Nat) (m : SM) (ds : List D) : runF fl n m ds = if ds.length = fl.length then match m (slotsOf fl ds ++ List.replicate (n - ds.length) .no) with
  | .nx ρ => fin fl (.ok .non) ρ
  | .rt d ρ => fin fl (.ok d) ρ
  | .rtF d ρ => fin fl (.okF d) ρ
  | .exc x ρ => fin fl (.exc x) ρ
  | _ => .bad else .bad := rfl
@[simp] theorem slots_nil (ds : List D) : slotsOf [] ds = [] := by cases ds <;> rfl
@[simp] theorem slots_v (fs : List Bool) (d : D) (ds : List D) : slotsOf (false :: fs) (d :: ds) = .v d :: slotsOf fs ds := rfl
@[simp] theorem slots_p (fs : List Bool) (d : D) (ds : List D) : slotsOf (true :: fs) (d :: ds) = .p d :: slotsOf fs ds := rfl
@[simp] theorem owns_nil (ρ : Env) : owns [] ρ = some [] := by cases ρ <;> rfl
@[simp] theorem owns_v (fs : List Bool) (s : Slot) (ρ : Env) : owns (false :: fs) (s :: ρ) = owns fs ρ := rfl
@[simp] theorem owns_p (fs : List Bool) (d : D) (ρ : Env) : owns (true :: fs) (.p d :: ρ) = (owns fs ρ).map fun ds => d :: ds := rfl
@[simp] theorem fin_eq (fl : List Bool) (f : List D → FRes) (ρ : Env) : fin fl f ρ = match owns fl ρ with
  | some os => f os
  | none => .bad := rfl
/-! ### calls -/
theorem call_val {fl : List Bool} {F : List D → FRes} {rs : List RV} {ρ : Env} {ds : List D} {r : D} (h1 : getAll ρ rs = some ds) (h2 : ownIdx fl rs = some []) (hF : F ds = .ok r []) (hl : (lent fl rs).isEmpty = true ∨ r.flat = true) : callG fl false F rs ρ = .ok r ρ := by
  unfold callG
  rw [h1, h2]
  simp only [hF]
  have e : lentOk (lent fl rs) r [] = true := by
    unfold lentOk
    rcases hl with h | h <;> simp [h]
  simp [e, upO]
theorem call_valF {fl : List Bool} {F : List D → FRes} {rs : List RV} {ρ : Env} {ds : List D} {r : D} (h1 : getAll ρ rs = some ds) (h2 : ownIdx fl rs = some []) (hF : F ds = .okF r []) (hl : (lent fl rs).isEmpty = true ∨ r.flatO = true) : callG fl true F rs ρ = .ok r ρ := by
  unfold callG
  rw [h1, h2]
  simp only [hF]
  have e : lentOkF (lent fl rs) r [] = true := by
    unfold lentOkF
    rcases hl with h | h <;> simp [h]
  simp [e, upO]
theorem call_own {fl : List Bool} {F : List D → FRes} {rs : List RV} {ρ : Env} {ds : List D} {r o : D} {i : Nat} (h1 : getAll ρ rs = some ds) (h2 : ownIdx fl rs = some [i]) (hF : F ds = .ok r [o]) (hl : lent fl rs = []) : callG fl false F rs ρ = .ok r (ownSet ρ i o) := by
  unfold callG
  rw [h1, h2]
  simp only [hF, hl]
  have e : lentOk [] r [o] = true := rfl
  simp [e, upO]
end NV

set_option Elab.async false
set_option linter.all false
set_option maxRecDepth 100000
set_option maxHeartbeats 4000000
/-! Ev2: comprehensions, loops, rows of ints. -/
namespace NV
open PySem PySem.Spec PyProof.Rows L2

/-! ### comprehensions -/
/-- nothing changes but the own slot -/
theorem comp_pure {mt : TM} {me : EM} {i : Nat} (e : Slot → Env) (hset : ∀ x y, (e x).set i y = e y) (p : D → Bool) (f : D → D) : ∀ (ds : List D), (∀ d ∈ ds, mt (e (.v d)) = .ok (p d) (e (.v d))) → (∀ d ∈ ds, p d = true → me (e (.v d)) = .ok (f d) (e (.v d))) →
    ∀ (acc : List D) (x : Slot), ∃ y, compL (gNm i) mt me [i] ds acc (e x) = .ok (acc ++ (ds.filter p).map f) (e y)
  | [], _, _, acc, x => ⟨x, by simp [compL]⟩
  | d :: ds, ht, he, acc, x => by
    have h1 := ht d List.mem_cons_self
    have ih := comp_pure e hset p f ds (fun d hd => ht d (List.mem_cons_of_mem _ hd)) (fun d hd => he d (List.mem_cons_of_mem _ hd))
    have es : (wipeE (e x) [i]).set i (.v d) = e (.v d) := by rw [show wipeE (e x) [i] = (e x).set i .no from rfl, hset, hset]
    unfold compL
    simp only [gNm_eq, es, h1, noexc_ok, bind_ok']
    cases hp : p d with
    | true =>
      simp only [if_true, he d List.mem_cons_self hp, noexc_ok, bind_ok']
      obtain ⟨y, e2⟩ := ih (acc ++ [f d]) (.v d)
      exact ⟨y, by rw [e2, List.filter_cons_of_pos hp]; simp⟩
    | false =>
      obtain ⟨y, e2⟩ := ih acc (.v d)
      refine ⟨y, ?_⟩
      simp only [Bool.false_eq_true, if_false]
      rw [e2, List.filter_cons_of_neg (by simp [hp])]
/-! ### for -/
theorem for_inv {g : D → Env → Option Env} {body : SM} (I : Env → Prop) : ∀ (ds : List D), (∀ d ∈ ds, ∀ ρ, I ρ → ∃ ρ1 ρ2, g d ρ = some ρ1 ∧ (body ρ1 = .nx ρ2 ∨ body ρ1 = .ct ρ2) ∧ I ρ2) → ∀ ρ, I ρ → ∃ ρ', forL g body ds ρ = .nx ρ' ∧ I ρ'
  | [], _, ρ, h => ⟨ρ, rfl, h⟩
  | d :: ds, hb, ρ, h => by
    obtain ⟨ρ1, ρ2, h1, h2, h3⟩ := hb d List.mem_cons_self ρ h
    obtain ⟨ρ', h4, h5⟩ := for_inv I ds (fun d hd => hb d (List.mem_cons_of_mem _ hd)) ρ2 h3
    refine ⟨ρ', ?_, h5⟩
    unfold forL
    rw [h1]
    rcases h2 with h2 | h2
    · simp only [h2]; exact h4
    · simp only [h2]; exact h4
/-! ### rows of ints -/
theorem okL_ints (n : Nat) : ∀ l : List Int, okL n (l.map D.int) = true
  | [] => by cases n <;> rfl
  | i :: l => by
    show (okD n (.int i) && okL n (l.map D.int)) = true
    rw [okL_ints n l]
    cases n <;> rfl
theorem any_ints (k : Int) : ∀ l : List Int, anyD (.int k) (l.map D.int) = decide (k ∈ l)
  | [] => rfl
  | i :: l => by
    have ih := any_ints k l
    unfold anyD at ih ⊢
    rw [List.map_cons, List.any_cons, ih, eqD_int]
    by_cases h : i = k
    · subst h; simp
    · have h' : ¬ k = i := fun z => h z.symm
      by_cases h2 : k ∈ l <;> simp [h, h', h2]
@[simp] theorem in_ints (k : Int) (l : List Int) : inD (.int k) (.tup (l.map D.int)) = some (.bl (decide (k ∈ l))) := by
  show ((if okD 60 (.int k) = true ∧ okL 60 (l.map D.int) = true then some (anyD (.int k) (l.map D.int)) else none).map D.bl) = _
  rw [if_pos ⟨rfl, okL_ints 60 l⟩, any_ints]
  rfl
@[simp] theorem in_intsL (k : Int) (l : List Int) : inD (.int k) (.lst (l.map D.int)) = some (.bl (decide (k ∈ l))) := by
  show ((if okD 60 (.int k) = true ∧ okL 60 (l.map D.int) = true then some (anyD (.int k) (l.map D.int)) else none).map D.bl) = _
  rw [if_pos ⟨rfl, okL_ints 60 l⟩, any_ints]
  rfl
@[simp] theorem notIn_ints (k : Int) (l : List Int) : notInD (.int k) (.tup (l.map D.int)) = some (.bl (!decide (k ∈ l))) := by
  show ((if okD 60 (.int k) = true ∧ okL 60 (l.map D.int) = true then some (anyD (.int k) (l.map D.int)) else none).map fun b => D.bl (!b)) = _
  rw [if_pos ⟨rfl, okL_ints 60 l⟩, any_ints]
  rfl
theorem eqvAll_ints : ∀ l m : List Int, PyData.eqvAll (toPyL (l.map D.int)) (toPyL (m.map D.int)) = decide (l = m)
  | [], [] => by simp [toPyL, PyData.eqvAll]
  | [], _ :: _ => by simp [toPyL, PyData.eqvAll]
  | _ :: _, [] => by simp [toPyL, PyData.eqvAll]
  | i :: l, j :: m => by
    have ih := eqvAll_ints l m
    have e := eqD_int i j
    unfold eqD at e
    rw [List.map_cons, List.map_cons, toPyL, toPyL, PyData.eqvAll, e, ih]
    by_cases h : i = j <;> by_cases h2 : l = m <;> simp [h, h2]
theorem eqD_iT (l m : List Int) : eqD (.tup (l.map D.int)) (.tup (m.map D.int)) = decide (l = m) := by
  unfold eqD
  rw [toPy, toPy, PyData.eqv, eqvAll_ints]
theorem eqD_iL (l m : List Int) : eqD (.lst (l.map D.int)) (.lst (m.map D.int)) = decide (l = m) := by
  unfold eqD
  rw [toPy, toPy, PyData.eqv, eqvAll_ints]
@[simp] theorem eqO_iT (l m : List Int) : eqO (.tup (l.map D.int)) (.tup (m.map D.int)) = some (.bl (decide (l = m))) := by
  cases m with
  | nil => cases l <;> simp [eqO]
  | cons i m =>
    show (if okD 60 (.tup (l.map D.int)) = true ∧ okD 60 (.tup ((i :: m).map D.int)) = true then some (D.bl (eqD (.tup (l.map D.int)) (.tup ((i :: m).map D.int)))) else none) = _
    rw [if_pos ⟨okL_ints 59 l, okL_ints 59 (i :: m)⟩, eqD_iT]
@[simp] theorem eqO_iT0 (l : List Int) : eqO (.tup (l.map D.int)) (.tup []) = some (.bl (decide (l = []))) := eqO_iT l []
@[simp] theorem neO_iL (l m : List Int) : neO (.lst (l.map D.int)) (.lst (m.map D.int)) = some (.bl (!decide (l = m))) := by
  show (if okD 60 (.lst (l.map D.int)) = true ∧ okD 60 (.lst (m.map D.int)) = true then some (D.bl (!eqD (.lst (l.map D.int)) (.lst (m.map D.int)))) else none) = _
  rw [if_pos ⟨okL_ints 59 l, okL_ints 59 m⟩, eqD_iL]
@[simp] theorem neO_iL0 (l : List Int) : neO (.lst (l.map D.int)) (.lst []) = some (.bl (!decide (l = []))) := neO_iL l []
theorem intsOf_map : ∀ l : List Int, intsOf (l.map D.int) = some l
  | [] => rfl
  | i :: l => by
    show (intsOf (l.map D.int)).map _ = _
    rw [intsOf_map l]
    rfl
/-- the int behind a datum -/
def toI : D → Int
  | .int i => i
  | _ => 0
end NV

set_option Elab.async false
set_option linter.all false
set_option maxRecDepth 100000
set_option maxHeartbeats 4000000
namespace NV
open PySem PySem.Spec PyProof.Rows L2
theorem sc_nt : FnScope ntN ["self", "row"] (defScope S_nt) := ⟨rfl, rfl, rfl, by decide +kernel, rfl, by decide +kernel, by decide +kernel⟩
theorem ok_nt {P : Program} {w : World} {K : PySem.W.Frag} {mg : Str → Option Value} {base : Heap} {f : Addr} {fd : FuncData} (D : FunD K "__init__" "NoText.__init__" (defArgs S_nt) (defBody S_nt) (defScope S_nt) [] [] f fd) (T : NtC K mg) : FnOk P w K mg base (L2.CX P w) 1 f fd ntN (spNT (He.ga K "NoText")) := by
  refine D.ok sc_nt (fun vs H Q E h => by obtain ⟨a, v, rfl, _⟩ := h; rfl) fun cdv A outer s H vs Q E hr hs => ⟨_, pss_cons (ps_expr (pe_teinit rfl T.te (pa_cons (pv 0) (pa_cons pe_str pa_nil)) rfl)) (pss_one (ps_ost (pv 0) (pv 1) rfl)), ?_⟩
  obtain ⟨a, v, rfl, ha, q⟩ := hs
  exact ⟨_, rfl, a, He.ga K "NoText", [_], rfl, by decide, T.o, ha, _, rfl, _, rfl, a, He.ga K "NoText", rfl, T.o, T.no, .inl ⟨ha, fun dx n ne => q dx n ne⟩⟩
theorem bt_all : bootBuiltins "all" = some (.builtin "all") := by decide +kernel
theorem bt_bool : bootBuiltins "bool" = some (.type "bool") := by decide +kernel
theorem bt_int : bootBuiltins "int" = some (.type "int") := by decide +kernel
theorem bt_len : bootBuiltins "len" = some (.builtin "len") := by decide +kernel
theorem bt_max : bootBuiltins "max" = some (.builtin "max") := by decide +kernel
theorem bt_min : bootBuiltins "min" = some (.builtin "min") := by decide +kernel
theorem bt_sorted : bootBuiltins "sorted" = some (.builtin "sorted") := by decide +kernel
theorem bt_str : bootBuiltins "str" = some (.type "str") := by decide +kernel
theorem bt_tuple : bootBuiltins "tuple" = some (.type "tuple") := by decide +kernel
def G_FIGURES : D := .str "0123456789"
def G_LETTERS : D := .str "abcdefghijklmnopqrstuvwxyz"
def G_MOST_FIGURES : D := .int 5
def G_MOST_LETTERS : D := .int 8
def G_MOST_MANY : D := .int 99
def G_MOST_RULES : D := .int 12
def G_MOST_SPAN : D := .int 99999
def G_MOST_WORDS : D := .int 8
def G_ONCE : D := .tup ((["fresh", "wheel"] : List Str).map D.str)
def G_WIDE : D := .tup ((["any", "fresh"] : List Str).map D.str)
/-! is_whole -/
abbrev N_is_whole : List Str := ["x"]
theorem sc_is_whole : FnScope N_is_whole ["x"] (defScope S_is_whole) := ⟨rfl, rfl, rfl, by decide +kernel, rfl, by decide +kernel, by decide +kernel⟩
def m_is_whole : SM := (sRet (eAnd (eIsT .int (rVar 0)) (eNot (eIsT .bool (rVar 0)))))
def F_is_whole : List D → FRes := runF [false] 1 m_is_whole
theorem fn_is_whole {P : Program} {w : World} {K : PySem.W.Frag} {mg : Str → Option Value} {base : Heap} {f : Addr} {fd : FuncData} (D : FnP K "is_whole" S_is_whole f fd)   (n_isinstance : mg "isinstance" = none) (n_bool : mg "bool" = none) (n_int : mg "int" = none) : FnOk P w K mg base (L2.CX P w) 1 f fd ["x"] (spF K mg [false] F_is_whole) := by
  refine fn_defD (k := 0) D sc_is_whole rfl fun cdv A outer s H E hr => ?_
  have c := cd_of (X := cxOf (L2.CX P w) P w K mg base N_is_whole "is_whole" (defScope S_is_whole) f cdv A outer s H E) hr
  have tk := takes_of (X := cxOf (L2.CX P w) P w K mg base N_is_whole "is_whole" (defScope S_is_whole) f cdv A outer s H E) (E := E) rfl rfl rfl rfl
  have nd := sc_is_whole.nd
  exact (dss_one (ds_ret (de_and (de_isT .int (dr_var (pv 0)) rfl n_isinstance rfl n_int bt_int) (de_one (de_not (de_isT .bool (dr_var (pv 0)) rfl n_isinstance rfl n_bool bt_bool))))))
theorem has_is_whole {P : Program} {w : World} {K : PySem.W.Frag} {mg : Str → Option Value} {base : Heap} {f : Addr} {fd : FuncData} (D : FnP K "is_whole" S_is_whole f fd) (g : mg "is_whole" = some (.ref f))  (n_isinstance : mg "isinstance" = none) (n_bool : mg "bool" = none) (n_int : mg "int" = none) : Has P w K mg base 1 "is_whole" [false] F_is_whole :=
  has_of D (fn_is_whole D n_isinstance n_bool n_int) g (fun _ _ _ _ _ _ us hl => match us, hl with | [_], _ => rfl)
/-! is_name -/
abbrev N_is_name : List Str := ["x", "sign"]
theorem sc_is_name : FnScope N_is_name ["x"] (defScope S_is_name) := ⟨rfl, rfl, rfl, by decide +kernel, rfl, by decide +kernel, by decide +kernel⟩
def m_is_name : SM := (sRet (eAnd (eIsT .str (rVar 0)) (eAnd (eChain le2 le2 (rOf (eC (.int 1))) (rOf (eCallB lenD (aCons (rVar 0) aNil))) (rOf (eC G_MOST_LETTERS))) (eCallB allD2 (aCons (rOf (eComp (iVal (eVar 0)) (gNm 1) tYesM (eOp2 inD (rVar 1) (rOf (eC G_LETTERS))) [1])) aNil)))))
def F_is_name : List D → FRes := runF [false] 2 m_is_name
theorem fn_is_name {P : Program} {w : World} {K : PySem.W.Frag} {mg : Str → Option Value} {base : Heap} {f : Addr} {fd : FuncData} (D : FnP K "is_name" S_is_name f fd)   (v_LETTERS : Gv K mg "LETTERS" G_LETTERS) (v_MOST_LETTERS : Gv K mg "MOST_LETTERS" G_MOST_LETTERS) (n_all : mg "all" = none) (n_len : mg "len" = none) (n_isinstance : mg "isinstance" = none) (n_str : mg "str" = none) : FnOk P w K mg base (L2.CX P w) 1 f fd ["x"] (spF K mg [false] F_is_name) := by
  refine fn_defD (k := 0) D sc_is_name rfl fun cdv A outer s H E hr => ?_
  have c := cd_of (X := cxOf (L2.CX P w) P w K mg base N_is_name "is_name" (defScope S_is_name) f cdv A outer s H E) hr
  have tk := takes_of (X := cxOf (L2.CX P w) P w K mg base N_is_name "is_name" (defScope S_is_name) f cdv A outer s H E) (E := E) rfl rfl rfl rfl
  have nd := sc_is_name.nd
  exact (dss_one (ds_ret (de_and (de_isT .str (dr_var (pv 0)) rfl n_isinstance rfl n_str bt_str) (de_and (de_chain (op_le2 c) o_le2 (op_le2 c) o_le2 (dr_e de_int) (dr_e (de_callB call_lenA f_len rfl n_len bt_len (da_cons (dr_var (pv 0)) da_nil))) (dr_e (de_glob v_MOST_LETTERS rfl))) (de_one (de_callB (cr_all c.calm) f_all rfl n_all bt_all (da_cons (dr_e (de_f (df_comp c nd (di_val (de_var (pv 0))) (blkOk_by (N := N_is_name) (sc := defScope S_is_name) (own := [("sign", 1)]) (by decide +kernel)) (fun _ _ _ _ _ => (dg_name (i := 1) nd rfl (by first | exact Or.inl rfl | exact Or.inr rfl))) (fun _ _ _ _ _ => dts_nil) (fun _ _ _ _ _ => (de_cmp (op_in c.blk) o_in (dr_var (pv 1)) (dr_e (de_glob v_LETTERS rfl)) (by with_unfolding_all rfl)))))) da_nil)))))))
theorem has_is_name {P : Program} {w : World} {K : PySem.W.Frag} {mg : Str → Option Value} {base : Heap} {f : Addr} {fd : FuncData} (D : FnP K "is_name" S_is_name f fd) (g : mg "is_name" = some (.ref f))  (v_LETTERS : Gv K mg "LETTERS" G_LETTERS) (v_MOST_LETTERS : Gv K mg "MOST_LETTERS" G_MOST_LETTERS) (n_all : mg "all" = none) (n_len : mg "len" = none) (n_isinstance : mg "isinstance" = none) (n_str : mg "str" = none) : Has P w K mg base 1 "is_name" [false] F_is_name :=
  has_of D (fn_is_name D v_LETTERS v_MOST_LETTERS n_all n_len n_isinstance n_str) g (fun _ _ _ _ _ _ us hl => match us, hl with | [_], _ => rfl)
/-! shown_rule -/
abbrev N_shown_rule : List Str := ["rule", "parts", "part", "one"]
theorem sc_shown_rule : FnScope N_shown_rule ["rule"] (defScope S_shown_rule) := ⟨rfl, rfl, rfl, by decide +kernel, rfl, by decide +kernel, by decide +kernel⟩
def m_shown_rule : SM := (sSeq (sSetO 1 (eLst lNil)) (sSeq (sFor (iVal (eVar 0)) (gNm 2) (sIf (tOfE (eIsT .tuple (rVar 2))) (sDrop (eMut 1 isLst appD (lCons (eJoin (eOp2 ixD (rOf (eLst (lCons (eC (.str "")) (lCons (eC (.str " ")) lNil)))) (rOf (eCallB intD (aCons (rOf (eOp2 eqO (rOf (eOp2 ixD (rVar 0) (rOf (eC (.int 0))))) (rOf (eC (.str "wheel"))))) aNil)))) (eComp (iVal (eVar 2)) (gNm 3) tYesM (eCallB strZ (aCons (rVar 3) aNil)) [3])) lNil))) (sDrop (eMut 1 isLst appD (lCons (eCallB strZ (aCons (rVar 2) aNil)) lNil))))) (sFz 1 (sRet (eJoin (eC (.str " ")) (eVar 1))))))
def F_shown_rule : List D → FRes := runF [false] 4 m_shown_rule
theorem fn_shown_rule {P : Program} {w : World} {K : PySem.W.Frag} {mg : Str → Option Value} {base : Heap} {f : Addr} {fd : FuncData} (D : FnP K "shown_rule" S_shown_rule f fd)   (n_isinstance : mg "isinstance" = none) (n_tuple : mg "tuple" = none) (n_int : mg "int" = none) (n_str : mg "str" = none) : FnOk P w K mg base (L2.CX P w) 1 f fd ["rule"] (spF K mg [false] F_shown_rule) := by
  refine fn_defD (k := 0) D sc_shown_rule rfl fun cdv A outer s H E hr => ?_
  have c := cd_of (X := cxOf (L2.CX P w) P w K mg base N_shown_rule "shown_rule" (defScope S_shown_rule) f cdv A outer s H E) hr
  have tk := takes_of (X := cxOf (L2.CX P w) P w K mg base N_shown_rule "shown_rule" (defScope S_shown_rule) f cdv A outer s H E) (E := E) rfl rfl rfl rfl
  have nd := sc_shown_rule.nd
  exact (dss_cons (ds_setO (i := 1) nd rfl (by first | exact Or.inl rfl | exact Or.inr rfl) (df_lst dl_nil)) (dss_cons (ds_for c (passes_of rfl) (di_val (de_var (pv 0))) (dg_name (i := 2) nd rfl (by first | exact Or.inl rfl | exact Or.inr rfl)) (dss_one (ds_if (dt_e (de_isT .tuple (dr_var (pv 2)) rfl n_isinstance rfl n_tuple bt_tuple)) (dss_one (ds_expr (de_mut (pv 1) PySem.F.slot_list_append PySem.F.type_list_append mt_append m_append (dl_cons (de_join (de_ix c (dr_e (de_f (df_lst (dl_cons de_str (dl_cons de_str dl_nil))))) (dr_e (de_callT call_int1 f_int rfl n_int bt_int (da_cons (dr_e (de_cmp (op_eq2 c) o_eq (dr_e (de_ix c (dr_var (pv 0)) (dr_e de_int))) (dr_e de_str) (by with_unfolding_all rfl))) da_nil)))) (de_f (df_comp c nd (di_val (de_var (pv 2))) (blkOk_by (N := N_shown_rule) (sc := defScope S_shown_rule) (own := [("one", 3)]) (by decide +kernel)) (fun _ _ _ _ _ => (dg_name (i := 3) nd rfl (by first | exact Or.inl rfl | exact Or.inr rfl))) (fun _ _ _ _ _ => dts_nil) (fun _ _ _ _ _ => (de_callT cr_strZ f_strZ rfl n_str bt_str (da_cons (dr_var (pv 3)) da_nil)))))) dl_nil)))) (dss_one (ds_expr (de_mut (pv 1) PySem.F.slot_list_append PySem.F.type_list_append mt_append m_append (dl_cons (de_callT cr_strZ f_strZ rfl n_str bt_str (da_cons (dr_var (pv 2)) da_nil)) dl_nil))))))) (dss_one (ds_fz 1 (ds_ret (de_join de_str (de_var (pv 1))))))))
theorem has_shown_rule {P : Program} {w : World} {K : PySem.W.Frag} {mg : Str → Option Value} {base : Heap} {f : Addr} {fd : FuncData} (D : FnP K "shown_rule" S_shown_rule f fd) (g : mg "shown_rule" = some (.ref f))  (n_isinstance : mg "isinstance" = none) (n_tuple : mg "tuple" = none) (n_int : mg "int" = none) (n_str : mg "str" = none) : Has P w K mg base 1 "shown_rule" [false] F_shown_rule :=
  has_of D (fn_shown_rule D n_isinstance n_tuple n_int n_str) g (fun _ _ _ _ _ _ us hl => match us, hl with | [_], _ => rfl)
/-! number_in -/
abbrev N_number_in : List Str := ["word", "sign"]
theorem sc_number_in : FnScope N_number_in ["word"] (defScope S_number_in) := ⟨rfl, rfl, rfl, by decide +kernel, rfl, by decide +kernel, by decide +kernel⟩
def m_number_in : SM := (sSeq (sIf (tOrM (tNotM (tOfE (eChain le2 le2 (rOf (eC (.int 1))) (rOf (eCallB lenD (aCons (rVar 0) aNil))) (rOf (eC G_MOST_FIGURES))))) (tNotM (tOfE (eCallB allD2 (aCons (rOf (eComp (iVal (eVar 0)) (gNm 1) tYesM (eOp2 inD (rVar 1) (rOf (eC G_FIGURES))) [1])) aNil))))) (sRet (eC .non)) sNil) (sSeq (sIf (tAndM (tOfE (eOp2 eqO (rOf (eOp2 ixD (rVar 0) (rOf (eC (.int 0))))) (rOf (eC (.str "0"))))) (tOfE (eOp2 neO (rVar 0) (rOf (eC (.str "0")))))) (sRet (eC .non)) sNil) (sRet (eCallB intZ (aCons (rVar 0) aNil)))))
def F_number_in : List D → FRes := runF [false] 2 m_number_in
theorem fn_number_in {P : Program} {w : World} {K : PySem.W.Frag} {mg : Str → Option Value} {base : Heap} {f : Addr} {fd : FuncData} (D : FnP K "number_in" S_number_in f fd)   (v_FIGURES : Gv K mg "FIGURES" G_FIGURES) (v_MOST_FIGURES : Gv K mg "MOST_FIGURES" G_MOST_FIGURES) (n_all : mg "all" = none) (n_len : mg "len" = none) (n_int : mg "int" = none) : FnOk P w K mg base (L2.CX P w) 1 f fd ["word"] (spF K mg [false] F_number_in) := by
  refine fn_defD (k := 0) D sc_number_in rfl fun cdv A outer s H E hr => ?_
  have c := cd_of (X := cxOf (L2.CX P w) P w K mg base N_number_in "number_in" (defScope S_number_in) f cdv A outer s H E) hr
  have tk := takes_of (X := cxOf (L2.CX P w) P w K mg base N_number_in "number_in" (defScope S_number_in) f cdv A outer s H E) (E := E) rfl rfl rfl rfl
  have nd := sc_number_in.nd
  exact (dss_cons (ds_if (dt_w (dw_or (dt_not (dt_chain (op_le2 c) o_le2 (op_le2 c) o_le2 (dr_e de_int) (dr_e (de_callB call_lenA f_len rfl n_len bt_len (da_cons (dr_var (pv 0)) da_nil))) (dr_e (de_glob v_MOST_FIGURES rfl)))) (dw_or1 (dt_not (dt_e (de_callB (cr_all c.calm) f_all rfl n_all bt_all (da_cons (dr_e (de_f (df_comp c nd (di_val (de_var (pv 0))) (blkOk_by (N := N_number_in) (sc := defScope S_number_in) (own := [("sign", 1)]) (by decide +kernel)) (fun _ _ _ _ _ => (dg_name (i := 1) nd rfl (by first | exact Or.inl rfl | exact Or.inr rfl))) (fun _ _ _ _ _ => dts_nil) (fun _ _ _ _ _ => (de_cmp (op_in c.blk) o_in (dr_var (pv 1)) (dr_e (de_glob v_FIGURES rfl)) (by with_unfolding_all rfl)))))) da_nil))))))) (dss_one (ds_ret de_non)) dss_nil) (dss_cons (ds_if (dt_w (dw_and (dt_cmp (op_eq2 c) o_eq (dr_e (de_ix c (dr_var (pv 0)) (dr_e de_int))) (dr_e de_str) (by with_unfolding_all rfl)) (dw_and1 (dt_cmp (op_ne2 c) o_ne (dr_var (pv 0)) (dr_e de_str) (by with_unfolding_all rfl))))) (dss_one (ds_ret de_non)) dss_nil) (dss_one (ds_ret (de_callT cr_intZ f_intZ rfl n_int bt_int (da_cons (dr_var (pv 0)) da_nil))))))
theorem has_number_in {P : Program} {w : World} {K : PySem.W.Frag} {mg : Str → Option Value} {base : Heap} {f : Addr} {fd : FuncData} (D : FnP K "number_in" S_number_in f fd) (g : mg "number_in" = some (.ref f))  (v_FIGURES : Gv K mg "FIGURES" G_FIGURES) (v_MOST_FIGURES : Gv K mg "MOST_FIGURES" G_MOST_FIGURES) (n_all : mg "all" = none) (n_len : mg "len" = none) (n_int : mg "int" = none) : Has P w K mg base 1 "number_in" [false] F_number_in :=
  has_of D (fn_number_in D v_FIGURES v_MOST_FIGURES n_all n_len n_int) g (fun _ _ _ _ _ _ us hl => match us, hl with | [_], _ => rfl)
/-! days_in -/
abbrev N_days_in : List Str := ["word", "sign"]
theorem sc_days_in : FnScope N_days_in ["word"] (defScope S_days_in) := ⟨rfl, rfl, rfl, by decide +kernel, rfl, by decide +kernel, by decide +kernel⟩
def m_days_in : SM := (sSeq (sIf (tNotM (tOfE (eCallB allD2 (aCons (rOf (eComp (iVal (eVar 0)) (gNm 1) tYesM (eOp2 inD (rVar 1) (rOf (eC G_FIGURES))) [1])) aNil)))) (sRet (eC .non)) sNil) (sRet (eCallB tuple3D (aCons (rOf (eComp (iVal (eVar 0)) (gNm 1) tYesM (eCallB intZ (aCons (rVar 1) aNil)) [1])) aNil))))
def F_days_in : List D → FRes := runF [false] 2 m_days_in
theorem fn_days_in {P : Program} {w : World} {K : PySem.W.Frag} {mg : Str → Option Value} {base : Heap} {f : Addr} {fd : FuncData} (D : FnP K "days_in" S_days_in f fd)   (v_FIGURES : Gv K mg "FIGURES" G_FIGURES) (n_all : mg "all" = none) (n_int : mg "int" = none) (n_tuple : mg "tuple" = none) : FnOk P w K mg base (L2.CX P w) 1 f fd ["word"] (spF K mg [false] F_days_in) := by
  refine fn_defD (k := 0) D sc_days_in rfl fun cdv A outer s H E hr => ?_
  have c := cd_of (X := cxOf (L2.CX P w) P w K mg base N_days_in "days_in" (defScope S_days_in) f cdv A outer s H E) hr
  have tk := takes_of (X := cxOf (L2.CX P w) P w K mg base N_days_in "days_in" (defScope S_days_in) f cdv A outer s H E) (E := E) rfl rfl rfl rfl
  have nd := sc_days_in.nd
  exact (dss_cons (ds_if (dt_not (dt_e (de_callB (cr_all c.calm) f_all rfl n_all bt_all (da_cons (dr_e (de_f (df_comp c nd (di_val (de_var (pv 0))) (blkOk_by (N := N_days_in) (sc := defScope S_days_in) (own := [("sign", 1)]) (by decide +kernel)) (fun _ _ _ _ _ => (dg_name (i := 1) nd rfl (by first | exact Or.inl rfl | exact Or.inr rfl))) (fun _ _ _ _ _ => dts_nil) (fun _ _ _ _ _ => (de_cmp (op_in c.blk) o_in (dr_var (pv 1)) (dr_e (de_glob v_FIGURES rfl)) (by with_unfolding_all rfl)))))) da_nil)))) (dss_one (ds_ret de_non)) dss_nil) (dss_one (ds_ret (de_callT (call_tup3 c.calm) f_tup3 rfl n_tuple bt_tuple (da_cons (dr_e (de_f (df_comp c nd (di_val (de_var (pv 0))) (blkOk_by (N := N_days_in) (sc := defScope S_days_in) (own := [("sign", 1)]) (by decide +kernel)) (fun _ _ _ _ _ => (dg_name (i := 1) nd rfl (by first | exact Or.inl rfl | exact Or.inr rfl))) (fun _ _ _ _ _ => dts_nil) (fun _ _ _ _ _ => (de_callT cr_intZ f_intZ rfl n_int bt_int (da_cons (dr_var (pv 1)) da_nil)))))) da_nil)))))
theorem has_days_in {P : Program} {w : World} {K : PySem.W.Frag} {mg : Str → Option Value} {base : Heap} {f : Addr} {fd : FuncData} (D : FnP K "days_in" S_days_in f fd) (g : mg "days_in" = some (.ref f))  (v_FIGURES : Gv K mg "FIGURES" G_FIGURES) (n_all : mg "all" = none) (n_int : mg "int" = none) (n_tuple : mg "tuple" = none) : Has P w K mg base 1 "days_in" [false] F_days_in :=
  has_of D (fn_days_in D v_FIGURES n_all n_int n_tuple) g (fun _ _ _ _ _ _ us hl => match us, hl with | [_], _ => rfl)
/-! _law_cell -/
abbrev N__law_cell : List Str := ["_law_script", "_law_k", "_law_state", "_law_cell_here"]
theorem sc__law_cell : FnScope N__law_cell ["_law_script", "_law_k"] (defScope S__law_cell) := ⟨rfl, rfl, rfl, by decide +kernel, rfl, by decide +kernel, by decide +kernel⟩
def m__law_cell : SM := (sSeq (sIf (tOfE (eOp2 lt2 (rVar 1) (rOf (eCallB lenD (aCons (rVar 0) aNil))))) (sRet (eOp2 ixD (rVar 0) (rVar 1))) sNil) (sSeq (sSet 2 (eOp2 modD (rOf (eOp2 mulD (rOf (eC (.int 60013))) (rOf (eOp2 addD (rOf (eOp2 addD (rOf (eOp2 mulD (rVar 1) (rVar 1))) (rOf (eOp2 mulD (rOf (eC (.int 5))) (rVar 1))))) (rOf (eC (.int 3))))))) (rOf (eC (.int 1000000007))))) (sSeq (sFor (iVal (eSl (rVar 0) oNo (oSome (eC (.int 4))))) (gNm 3) (sSet 2 (eOp2 modD (rOf (eOp2 addD (rOf (eOp2 mulD (rVar 2) (rOf (eC (.int 30011))))) (rVar 3))) (rOf (eC (.int 1000000007)))))) (sRet (eVar 2)))))
def F__law_cell : List D → FRes := runF [false, false] 4 m__law_cell
theorem fn__law_cell {P : Program} {w : World} {K : PySem.W.Frag} {mg : Str → Option Value} {base : Heap} {f : Addr} {fd : FuncData} (D : FnP K "_law_cell" S__law_cell f fd)   (n_len : mg "len" = none) : FnOk P w K mg base (L2.CX P w) 1 f fd ["_law_script", "_law_k"] (spF K mg [false, false] F__law_cell) := by
  refine fn_defD (k := 0) D sc__law_cell rfl fun cdv A outer s H E hr => ?_
  have c := cd_of (X := cxOf (L2.CX P w) P w K mg base N__law_cell "_law_cell" (defScope S__law_cell) f cdv A outer s H E) hr
  have tk := takes_of (X := cxOf (L2.CX P w) P w K mg base N__law_cell "_law_cell" (defScope S__law_cell) f cdv A outer s H E) (E := E) rfl rfl rfl rfl
  have nd := sc__law_cell.nd
  exact (dss_cons (ds_if (dt_cmp (op_lt2 c) o_lt2 (dr_var (pv 1)) (dr_e (de_callB call_lenA f_len rfl n_len bt_len (da_cons (dr_var (pv 0)) da_nil))) (by with_unfolding_all rfl)) (dss_one (ds_ret (de_ix c (dr_var (pv 0)) (dr_var (pv 1))))) dss_nil) (dss_cons (ds_set (i := 2) nd rfl (by first | exact Or.inl rfl | exact Or.inr rfl) (de_op op_mod o_mod (dr_e (de_op op_mul2 o_mul (dr_e de_int) (dr_e (de_op op_add4 o_add (dr_e (de_op op_add4 o_add (dr_e (de_op op_mul2 o_mul (dr_var (pv 1)) (dr_var (pv 1)))) (dr_e (de_op op_mul2 o_mul (dr_e de_int) (dr_var (pv 1)))))) (dr_e de_int))))) (dr_e de_int))) (dss_cons (ds_for c (passes_of rfl) (di_val (de_sl (dr_var (pv 0)) do_none (do_some de_int))) (dg_name (i := 3) nd rfl (by first | exact Or.inl rfl | exact Or.inr rfl)) (dss_one (ds_set (i := 2) nd rfl (by first | exact Or.inl rfl | exact Or.inr rfl) (de_op op_mod o_mod (dr_e (de_op op_add4 o_add (dr_e (de_op op_mul2 o_mul (dr_var (pv 2)) (dr_e de_int))) (dr_var (pv 3)))) (dr_e de_int))))) (dss_one (ds_ret (de_var (pv 2)))))))
theorem has__law_cell {P : Program} {w : World} {K : PySem.W.Frag} {mg : Str → Option Value} {base : Heap} {f : Addr} {fd : FuncData} (D : FnP K "_law_cell" S__law_cell f fd) (g : mg "_law_cell" = some (.ref f))  (n_len : mg "len" = none) : Has P w K mg base 1 "_law_cell" [false, false] F__law_cell :=
  has_of D (fn__law_cell D n_len) g (fun _ _ _ _ _ _ us hl => match us, hl with | [_, _], _ => rfl)
/-! _law_purse -/
abbrev N__law_purse : List Str := ["_law_cell_here"]
theorem sc__law_purse : FnScope N__law_purse ["_law_cell_here"] (defScope S__law_purse) := ⟨rfl, rfl, rfl, by decide +kernel, rfl, by decide +kernel, by decide +kernel⟩
def m__law_purse : SM := (sRetF (eLst (lCons (eOp2 addD (rOf (eOp2 mulD (rOf (eOp2 modD (rVar 0) (rOf (eC (.int 999999937))))) (rOf (eC (.int 7907))))) (rOf (eC (.int 4409)))) (lCons (eOp2 ixD (rOf (eLst (lCons (eC (.int 0)) (lCons (eVar 0) lNil)))) (rOf (eCallB intD (aCons (rOf (eOp2 ge2 (rVar 0) (rOf (eOp2 powD (rOf (eC (.int 10))) (rOf (eC (.int 18))))))) aNil)))) (lCons (eC (.int 0)) lNil)))))
def F__law_purse : List D → FRes := runF [false] 1 m__law_purse
theorem fn__law_purse {P : Program} {w : World} {K : PySem.W.Frag} {mg : Str → Option Value} {base : Heap} {f : Addr} {fd : FuncData} (D : FnP K "_law_purse" S__law_purse f fd)   (n_int : mg "int" = none) : FnOk P w K mg base (L2.CX P w) 1 f fd ["_law_cell_here"] (spF K mg [false] F__law_purse) := by
  refine fn_defD (k := 0) D sc__law_purse rfl fun cdv A outer s H E hr => ?_
  have c := cd_of (X := cxOf (L2.CX P w) P w K mg base N__law_purse "_law_purse" (defScope S__law_purse) f cdv A outer s H E) hr
  have tk := takes_of (X := cxOf (L2.CX P w) P w K mg base N__law_purse "_law_purse" (defScope S__law_purse) f cdv A outer s H E) (E := E) rfl rfl rfl rfl
  have nd := sc__law_purse.nd
  exact (dss_one (ds_retF (df_lst (dl_cons (de_op op_add4 o_add (dr_e (de_op op_mul2 o_mul (dr_e (de_op op_mod o_mod (dr_var (pv 0)) (dr_e de_int))) (dr_e de_int))) (dr_e de_int)) (dl_cons (de_ix c (dr_e (de_f (df_lst (dl_cons de_int (dl_cons (de_var (pv 0)) dl_nil))))) (dr_e (de_callT call_int1 f_int rfl n_int bt_int (da_cons (dr_e (de_cmp (op_ge2 c) o_ge2 (dr_var (pv 0)) (dr_e (de_op op_pow o_pow (dr_e de_int) (dr_e de_int))) (by with_unfolding_all rfl))) da_nil)))) (dl_cons de_int dl_nil))))))
theorem has__law_purse {P : Program} {w : World} {K : PySem.W.Frag} {mg : Str → Option Value} {base : Heap} {f : Addr} {fd : FuncData} (D : FnP K "_law_purse" S__law_purse f fd) (g : mg "_law_purse" = some (.ref f))  (n_int : mg "int" = none) : Has P w K mg base 1 "_law_purse" [false] F__law_purse :=
  has_of D (fn__law_purse D n_int) g (fun _ _ _ _ _ _ us hl => match us, hl with | [_], _ => rfl)
/-! _law_pick -/
abbrev N__law_pick : List Str := ["_law_purse_here", "_law_many", "_law_state", "_law_taken"]
theorem sc__law_pick : FnScope N__law_pick ["_law_purse_here", "_law_many"] (defScope S__law_pick) := ⟨rfl, rfl, rfl, by decide +kernel, rfl, by decide +kernel, by decide +kernel⟩
def m__law_pick : SM := (sSeq (sSetIx 0 (eOp2 addD (rOf (eOp2 ixD (rVar 0) (rOf (eC (.int 2))))) (rOf (eC (.int 1)))) (eC (.int 2))) (sSeq (sSet 2 (eOp2 modD (rOf (eOp2 ixD (rVar 0) (rOf (eC (.int 0))))) (rOf (eC (.int 999999937))))) (sSeq (sSetIx 0 (eOp2 addD (rOf (eOp2 mulD (rVar 2) (rOf (eOp2 addD (rOf (eOp2 modD (rVar 2) (rOf (eC (.int 30013))))) (rOf (eC (.int 20011))))))) (rOf (eOp2 mulD (rOf (eC (.int 70001))) (rOf (eOp2 ixD (rVar 0) (rOf (eC (.int 2)))))))) (eC (.int 0))) (sSeq (sIf (tOfE (eOp2 gt2 (rOf (eOp2 ixD (rVar 0) (rOf (eC (.int 1))))) (rOf (eC (.int 0))))) (sSeq (sSet 3 (eOp2 modD (rOf (eOp2 ixD (rVar 0) (rOf (eC (.int 1))))) (rVar 1))) (sSeq (sSetIx 0 (eOp2 fdivD (rOf (eOp2 ixD (rVar 0) (rOf (eC (.int 1))))) (rVar 1)) (eC (.int 1))) (sRet (eVar 3)))) sNil) (sRet (eOp2 modD (rOf (eOp2 fdivD (rOf (eOp2 modD (rOf (eOp2 ixD (rVar 0) (rOf (eC (.int 0))))) (rOf (eC (.int 999999937))))) (rOf (eC (.int 8))))) (rVar 1)))))))
def F__law_pick : List D → FRes := runF [true, false] 4 m__law_pick
theorem fn__law_pick {P : Program} {w : World} {K : PySem.W.Frag} {mg : Str → Option Value} {base : Heap} {f : Addr} {fd : FuncData} (D : FnP K "_law_pick" S__law_pick f fd)    : FnOk P w K mg base (L2.CX P w) 1 f fd ["_law_purse_here", "_law_many"] (spF K mg [true, false] F__law_pick) := by
  refine fn_defD (k := 0) D sc__law_pick rfl fun cdv A outer s H E hr => ?_
  have c := cd_of (X := cxOf (L2.CX P w) P w K mg base N__law_pick "_law_pick" (defScope S__law_pick) f cdv A outer s H E) hr
  have tk := takes_of (X := cxOf (L2.CX P w) P w K mg base N__law_pick "_law_pick" (defScope S__law_pick) f cdv A outer s H E) (E := E) rfl rfl rfl rfl
  have nd := sc__law_pick.nd
  exact (dss_cons (ds_setIx (i := 0) (pv 0) (de_op op_add4 o_add (dr_e (de_ix c (dr_var (pv 0)) (dr_e de_int))) (dr_e de_int)) de_int) (dss_cons (ds_set (i := 2) nd rfl (by first | exact Or.inl rfl | exact Or.inr rfl) (de_op op_mod o_mod (dr_e (de_ix c (dr_var (pv 0)) (dr_e de_int))) (dr_e de_int))) (dss_cons (ds_setIx (i := 0) (pv 0) (de_op op_add4 o_add (dr_e (de_op op_mul2 o_mul (dr_var (pv 2)) (dr_e (de_op op_add4 o_add (dr_e (de_op op_mod o_mod (dr_var (pv 2)) (dr_e de_int))) (dr_e de_int))))) (dr_e (de_op op_mul2 o_mul (dr_e de_int) (dr_e (de_ix c (dr_var (pv 0)) (dr_e de_int)))))) de_int) (dss_cons (ds_if (dt_cmp (op_gt2 c) o_gt2 (dr_e (de_ix c (dr_var (pv 0)) (dr_e de_int))) (dr_e de_int) (by with_unfolding_all rfl)) (dss_cons (ds_set (i := 3) nd rfl (by first | exact Or.inl rfl | exact Or.inr rfl) (de_op op_mod o_mod (dr_e (de_ix c (dr_var (pv 0)) (dr_e de_int))) (dr_var (pv 1)))) (dss_cons (ds_setIx (i := 0) (pv 0) (de_op op_fdiv o_fdiv (dr_e (de_ix c (dr_var (pv 0)) (dr_e de_int))) (dr_var (pv 1))) de_int) (dss_one (ds_ret (de_var (pv 3)))))) dss_nil) (dss_one (ds_ret (de_op op_mod o_mod (dr_e (de_op op_fdiv o_fdiv (dr_e (de_op op_mod o_mod (dr_e (de_ix c (dr_var (pv 0)) (dr_e de_int))) (dr_e de_int))) (dr_e de_int))) (dr_var (pv 1)))))))))
theorem has__law_pick {P : Program} {w : World} {K : PySem.W.Frag} {mg : Str → Option Value} {base : Heap} {f : Addr} {fd : FuncData} (D : FnP K "_law_pick" S__law_pick f fd) (g : mg "_law_pick" = some (.ref f))   : Has P w K mg base 1 "_law_pick" [true, false] F__law_pick :=
  has_of D (fn__law_pick D ) g (fun _ _ _ _ _ _ us hl => match us, hl with | [_, _], _ => rfl)
/-! _law_row -/
abbrev N__law_row : List Str := ["_law_rule_here", "_law_days", "_law_part", "_law_day"]
theorem sc__law_row : FnScope N__law_row ["_law_rule_here"] (defScope S__law_row) := ⟨rfl, rfl, rfl, by decide +kernel, rfl, by decide +kernel, by decide +kernel⟩
def m__law_row : SM := (sSeq (sIf (tOfE (eOp2 eqO (rOf (eOp2 ixD (rVar 0) (rOf (eC (.int 0))))) (rOf (eC (.str "never"))))) (sSeq (sSet 1 (eJoin (eC (.str "")) (eComp (iVal (eOp2 ixD (rVar 0) (rOf (eC (.int 2))))) (gNm 3) tYesM (eCallB strZ (aCons (rVar 3) aNil)) [3]))) (sRet (eJoin (eC (.str " ")) (eLst (lCons (eC (.str "never")) (lCons (eOp2 ixD (rVar 0) (rOf (eC (.int 1)))) (lCons (eVar 1) (lCons (eCallB strZ (aCons (rOf (eOp2 ixD (rVar 0) (rOf (eC (.int 3))))) aNil)) (lCons (eCallB strZ (aCons (rOf (eOp2 ixD (rVar 0) (rOf (eC (.int 4))))) aNil)) lNil))))))))) sNil) (sSeq (sIf (tOfE (eOp2 eqO (rOf (eOp2 ixD (rVar 0) (rOf (eC (.int 0))))) (rOf (eC (.str "wheel"))))) (sRet (eOp2 addD (rOf (eC (.str "wheel "))) (rOf (eJoin (eC (.str " ")) (eOp2 ixD (rVar 0) (rOf (eC (.int 1)))))))) sNil) (sRet (eJoin (eC (.str " ")) (eComp (iVal (eVar 0)) (gNm 2) tYesM (eCallB strZ (aCons (rVar 2) aNil)) [2])))))
def F__law_row : List D → FRes := runF [false] 4 m__law_row
theorem fn__law_row {P : Program} {w : World} {K : PySem.W.Frag} {mg : Str → Option Value} {base : Heap} {f : Addr} {fd : FuncData} (D : FnP K "_law_row" S__law_row f fd)   (n_str : mg "str" = none) : FnOk P w K mg base (L2.CX P w) 1 f fd ["_law_rule_here"] (spF K mg [false] F__law_row) := by
  refine fn_defD (k := 0) D sc__law_row rfl fun cdv A outer s H E hr => ?_
  have c := cd_of (X := cxOf (L2.CX P w) P w K mg base N__law_row "_law_row" (defScope S__law_row) f cdv A outer s H E) hr
  have tk := takes_of (X := cxOf (L2.CX P w) P w K mg base N__law_row "_law_row" (defScope S__law_row) f cdv A outer s H E) (E := E) rfl rfl rfl rfl
  have nd := sc__law_row.nd
  exact (dss_cons (ds_if (dt_cmp (op_eq2 c) o_eq (dr_e (de_ix c (dr_var (pv 0)) (dr_e de_int))) (dr_e de_str) (by with_unfolding_all rfl)) (dss_cons (ds_set (i := 1) nd rfl (by first | exact Or.inl rfl | exact Or.inr rfl) (de_join de_str (de_f (df_comp c nd (di_val (de_ix c (dr_var (pv 0)) (dr_e de_int))) (blkOk_by (N := N__law_row) (sc := defScope S__law_row) (own := [("_law_day", 3)]) (by decide +kernel)) (fun _ _ _ _ _ => (dg_name (i := 3) nd rfl (by first | exact Or.inl rfl | exact Or.inr rfl))) (fun _ _ _ _ _ => dts_nil) (fun _ _ _ _ _ => (de_callT cr_strZ f_strZ rfl n_str bt_str (da_cons (dr_var (pv 3)) da_nil))))))) (dss_one (ds_ret (de_join de_str (de_f (df_lst (dl_cons de_str (dl_cons (de_ix c (dr_var (pv 0)) (dr_e de_int)) (dl_cons (de_var (pv 1)) (dl_cons (de_callT cr_strZ f_strZ rfl n_str bt_str (da_cons (dr_e (de_ix c (dr_var (pv 0)) (dr_e de_int))) da_nil)) (dl_cons (de_callT cr_strZ f_strZ rfl n_str bt_str (da_cons (dr_e (de_ix c (dr_var (pv 0)) (dr_e de_int))) da_nil)) dl_nil))))))))))) dss_nil) (dss_cons (ds_if (dt_cmp (op_eq2 c) o_eq (dr_e (de_ix c (dr_var (pv 0)) (dr_e de_int))) (dr_e de_str) (by with_unfolding_all rfl)) (dss_one (ds_ret (de_op op_add4 o_add (dr_e de_str) (dr_e (de_join de_str (de_ix c (dr_var (pv 0)) (dr_e de_int))))))) dss_nil) (dss_one (ds_ret (de_join de_str (de_f (df_comp c nd (di_val (de_var (pv 0))) (blkOk_by (N := N__law_row) (sc := defScope S__law_row) (own := [("_law_part", 2)]) (by decide +kernel)) (fun _ _ _ _ _ => (dg_name (i := 2) nd rfl (by first | exact Or.inl rfl | exact Or.inr rfl))) (fun _ _ _ _ _ => dts_nil) (fun _ _ _ _ _ => (de_callT cr_strZ f_strZ rfl n_str bt_str (da_cons (dr_var (pv 2)) da_nil))))))))))
theorem has__law_row {P : Program} {w : World} {K : PySem.W.Frag} {mg : Str → Option Value} {base : Heap} {f : Addr} {fd : FuncData} (D : FnP K "_law_row" S__law_row f fd) (g : mg "_law_row" = some (.ref f))  (n_str : mg "str" = none) : Has P w K mg base 1 "_law_row" [false] F__law_row :=
  has_of D (fn__law_row D n_str) g (fun _ _ _ _ _ _ us hl => match us, hl with | [_], _ => rfl)
/-! _law_figures -/
abbrev N__law_figures : List Str := ["_law_word", "_law_least", "_law_most", "_law_sign"]
theorem sc__law_figures : FnScope N__law_figures ["_law_word", "_law_least", "_law_most"] (defScope S__law_figures) := ⟨rfl, rfl, rfl, by decide +kernel, rfl, by decide +kernel, by decide +kernel⟩
def m__law_figures : SM := (sSeq (sIf (tOrM (tNotM (tOfE (eChain le2 le2 (rOf (eC (.int 1))) (rOf (eCallB lenD (aCons (rVar 0) aNil))) (rOf (eC (.int 5)))))) (tOrM (tNotM (tOfE (eCallB allD2 (aCons (rOf (eComp (iVal (eVar 0)) (gNm 3) tYesM (eOp2 inD (rVar 3) (rOf (eC (.str "0123456789")))) [3])) aNil)))) (tOfE (eOp2 neO (rOf (eCallB strZ (aCons (rOf (eCallB intZ (aCons (rVar 0) aNil))) aNil))) (rVar 0))))) (sRet (eC .non)) sNil) (sRet (eOp2 ixD (rOf (eLst (lCons (eC .non) (lCons (eCallB intZ (aCons (rVar 0) aNil)) lNil)))) (rOf (eCallB intZ (aCons (rOf (eChain le2 le2 (rVar 1) (rOf (eCallB intZ (aCons (rVar 0) aNil))) (rVar 2))) aNil))))))
def F__law_figures : List D → FRes := runF [false, false, false] 4 m__law_figures
theorem fn__law_figures {P : Program} {w : World} {K : PySem.W.Frag} {mg : Str → Option Value} {base : Heap} {f : Addr} {fd : FuncData} (D : FnP K "_law_figures" S__law_figures f fd)   (n_int : mg "int" = none) (n_str : mg "str" = none) (n_all : mg "all" = none) (n_len : mg "len" = none) : FnOk P w K mg base (L2.CX P w) 1 f fd ["_law_word", "_law_least", "_law_most"] (spF K mg [false, false, false] F__law_figures) := by
  refine fn_defD (k := 0) D sc__law_figures rfl fun cdv A outer s H E hr => ?_
  have c := cd_of (X := cxOf (L2.CX P w) P w K mg base N__law_figures "_law_figures" (defScope S__law_figures) f cdv A outer s H E) hr
  have tk := takes_of (X := cxOf (L2.CX P w) P w K mg base N__law_figures "_law_figures" (defScope S__law_figures) f cdv A outer s H E) (E := E) rfl rfl rfl rfl
  have nd := sc__law_figures.nd
  exact (dss_cons (ds_if (dt_w (dw_or (dt_not (dt_chain (op_le2 c) o_le2 (op_le2 c) o_le2 (dr_e de_int) (dr_e (de_callB call_lenA f_len rfl n_len bt_len (da_cons (dr_var (pv 0)) da_nil))) (dr_e de_int))) (dw_or (dt_not (dt_e (de_callB (cr_all c.calm) f_all rfl n_all bt_all (da_cons (dr_e (de_f (df_comp c nd (di_val (de_var (pv 0))) (blkOk_by (N := N__law_figures) (sc := defScope S__law_figures) (own := [("_law_sign", 3)]) (by decide +kernel)) (fun _ _ _ _ _ => (dg_name (i := 3) nd rfl (by first | exact Or.inl rfl | exact Or.inr rfl))) (fun _ _ _ _ _ => dts_nil) (fun _ _ _ _ _ => (de_cmp (op_in c.blk) o_in (dr_var (pv 3)) (dr_e de_str) (by with_unfolding_all rfl)))))) da_nil)))) (dw_or1 (dt_cmp (op_ne2 c) o_ne (dr_e (de_callT cr_strZ f_strZ rfl n_str bt_str (da_cons (dr_e (de_callT cr_intZ f_intZ rfl n_int bt_int (da_cons (dr_var (pv 0)) da_nil))) da_nil))) (dr_var (pv 0)) (by with_unfolding_all rfl)))))) (dss_one (ds_ret de_non)) dss_nil) (dss_one (ds_ret (de_ix c (dr_e (de_f (df_lst (dl_cons de_non (dl_cons (de_callT cr_intZ f_intZ rfl n_int bt_int (da_cons (dr_var (pv 0)) da_nil)) dl_nil))))) (dr_e (de_callT cr_intZ f_intZ rfl n_int bt_int (da_cons (dr_e (de_chain (op_le2 c) o_le2 (op_le2 c) o_le2 (dr_var (pv 1)) (dr_e (de_callT cr_intZ f_intZ rfl n_int bt_int (da_cons (dr_var (pv 0)) da_nil))) (dr_var (pv 2)))) da_nil)))))))
theorem has__law_figures {P : Program} {w : World} {K : PySem.W.Frag} {mg : Str → Option Value} {base : Heap} {f : Addr} {fd : FuncData} (D : FnP K "_law_figures" S__law_figures f fd) (g : mg "_law_figures" = some (.ref f))  (n_int : mg "int" = none) (n_str : mg "str" = none) (n_all : mg "all" = none) (n_len : mg "len" = none) : Has P w K mg base 1 "_law_figures" [false, false, false] F__law_figures :=
  has_of D (fn__law_figures D n_int n_str n_all n_len) g (fun _ _ _ _ _ _ us hl => match us, hl with | [_, _, _], _ => rfl)
/-! _law_kind_in -/
abbrev N__law_kind_in : List Str := ["_law_word", "_law_good", "_law_sign"]
theorem sc__law_kind_in : FnScope N__law_kind_in ["_law_word"] (defScope S__law_kind_in) := ⟨rfl, rfl, rfl, by decide +kernel, rfl, by decide +kernel, by decide +kernel⟩
def m__law_kind_in : SM := (sSeq (sSet 1 (eAnd (eChain lt2 lt2 (rOf (eC (.int 0))) (rOf (eCallB lenD (aCons (rVar 0) aNil))) (rOf (eC (.int 9)))) (eCallB allD2 (aCons (rOf (eComp (iVal (eVar 0)) (gNm 2) tYesM (eOp2 inD (rVar 2) (rOf (eC (.str "abcdefghijklmnopqrstuvwxyz")))) [2])) aNil)))) (sRet (eOp2 ixD (rOf (eLst (lCons (eC .non) (lCons (eVar 0) lNil)))) (rOf (eCallB intD (aCons (rOf (eAnd (eVar 1) (eAnd (eOp2 neO (rVar 0) (rOf (eC (.str "any")))) (eOp2 neO (rVar 0) (rOf (eC (.str "fresh"))))))) aNil))))))
def F__law_kind_in : List D → FRes := runF [false] 3 m__law_kind_in
theorem fn__law_kind_in {P : Program} {w : World} {K : PySem.W.Frag} {mg : Str → Option Value} {base : Heap} {f : Addr} {fd : FuncData} (D : FnP K "_law_kind_in" S__law_kind_in f fd)   (n_all : mg "all" = none) (n_len : mg "len" = none) (n_int : mg "int" = none) : FnOk P w K mg base (L2.CX P w) 1 f fd ["_law_word"] (spF K mg [false] F__law_kind_in) := by
  refine fn_defD (k := 0) D sc__law_kind_in rfl fun cdv A outer s H E hr => ?_
  have c := cd_of (X := cxOf (L2.CX P w) P w K mg base N__law_kind_in "_law_kind_in" (defScope S__law_kind_in) f cdv A outer s H E) hr
  have tk := takes_of (X := cxOf (L2.CX P w) P w K mg base N__law_kind_in "_law_kind_in" (defScope S__law_kind_in) f cdv A outer s H E) (E := E) rfl rfl rfl rfl
  have nd := sc__law_kind_in.nd
  exact (dss_cons (ds_set (i := 1) nd rfl (by first | exact Or.inl rfl | exact Or.inr rfl) (de_and (de_chain (op_lt2 c) o_lt2 (op_lt2 c) o_lt2 (dr_e de_int) (dr_e (de_callB call_lenA f_len rfl n_len bt_len (da_cons (dr_var (pv 0)) da_nil))) (dr_e de_int)) (de_one (de_callB (cr_all c.calm) f_all rfl n_all bt_all (da_cons (dr_e (de_f (df_comp c nd (di_val (de_var (pv 0))) (blkOk_by (N := N__law_kind_in) (sc := defScope S__law_kind_in) (own := [("_law_sign", 2)]) (by decide +kernel)) (fun _ _ _ _ _ => (dg_name (i := 2) nd rfl (by first | exact Or.inl rfl | exact Or.inr rfl))) (fun _ _ _ _ _ => dts_nil) (fun _ _ _ _ _ => (de_cmp (op_in c.blk) o_in (dr_var (pv 2)) (dr_e de_str) (by with_unfolding_all rfl)))))) da_nil))))) (dss_one (ds_ret (de_ix c (dr_e (de_f (df_lst (dl_cons de_non (dl_cons (de_var (pv 0)) dl_nil))))) (dr_e (de_callT call_int1 f_int rfl n_int bt_int (da_cons (dr_e (de_and (de_var (pv 1)) (de_and (de_cmp (op_ne2 c) o_ne (dr_var (pv 0)) (dr_e de_str) (by with_unfolding_all rfl)) (de_one (de_cmp (op_ne2 c) o_ne (dr_var (pv 0)) (dr_e de_str) (by with_unfolding_all rfl)))))) da_nil)))))))
theorem has__law_kind_in {P : Program} {w : World} {K : PySem.W.Frag} {mg : Str → Option Value} {base : Heap} {f : Addr} {fd : FuncData} (D : FnP K "_law_kind_in" S__law_kind_in f fd) (g : mg "_law_kind_in" = some (.ref f))  (n_all : mg "all" = none) (n_len : mg "len" = none) (n_int : mg "int" = none) : Has P w K mg base 1 "_law_kind_in" [false] F__law_kind_in :=
  has_of D (fn__law_kind_in D n_all n_len n_int) g (fun _ _ _ _ _ _ us hl => match us, hl with | [_], _ => rfl)
/-! is_kind -/
abbrev N_is_kind : List Str := ["x"]
theorem sc_is_kind : FnScope N_is_kind ["x"] (defScope S_is_kind) := ⟨rfl, rfl, rfl, by decide +kernel, rfl, by decide +kernel, by decide +kernel⟩
def m_is_kind : SM := (sRet (eAnd (eCall [false] false F_is_name (aCons (rVar 0) aNil)) (eOp2 notInD (rVar 0) (rOf (eC G_WIDE)))))
def F_is_kind : List D → FRes := runF [false] 1 m_is_kind
theorem fn_is_kind {P : Program} {w : World} {K : PySem.W.Frag} {mg : Str → Option Value} {base : Heap} {f : Addr} {fd : FuncData} (D : FnP K "is_kind" S_is_kind f fd)  (h_is_name : Has P w K mg base 1 "is_name" [false] F_is_name) (v_WIDE : Gv K mg "WIDE" G_WIDE) : FnOk P w K mg base (L2.CX P w) 2 f fd ["x"] (spF K mg [false] F_is_kind) := by
  refine fn_defD (k := 1) D sc_is_kind rfl fun cdv A outer s H E hr => ?_
  have c := cd_of (X := cxOf (L2.CX P w) P w K mg base N_is_kind "is_kind" (defScope S_is_kind) f cdv A outer s H E) hr
  have tk := takes_of (X := cxOf (L2.CX P w) P w K mg base N_is_kind "is_kind" (defScope S_is_kind) f cdv A outer s H E) (E := E) rfl rfl rfl rfl
  have nd := sc_is_kind.nd
  exact (dss_one (ds_ret (de_and (de_callH h_is_name hr rfl tk (da_cons (dr_var (pv 0)) da_nil) (by omega)) (de_one (de_cmp (op_notIn c) o_notIn (dr_var (pv 0)) (dr_e (de_glob v_WIDE rfl)) (by with_unfolding_all rfl))))))
theorem has_is_kind {P : Program} {w : World} {K : PySem.W.Frag} {mg : Str → Option Value} {base : Heap} {f : Addr} {fd : FuncData} (D : FnP K "is_kind" S_is_kind f fd) (g : mg "is_kind" = some (.ref f)) (h_is_name : Has P w K mg base 1 "is_name" [false] F_is_name) (v_WIDE : Gv K mg "WIDE" G_WIDE) : Has P w K mg base 2 "is_kind" [false] F_is_kind :=
  has_of D (fn_is_kind D h_is_name v_WIDE) g (fun _ _ _ _ _ _ us hl => match us, hl with | [_], _ => rfl)
/-! is_between -/
abbrev N_is_between : List Str := ["x", "least", "most"]
theorem sc_is_between : FnScope N_is_between ["x", "least", "most"] (defScope S_is_between) := ⟨rfl, rfl, rfl, by decide +kernel, rfl, by decide +kernel, by decide +kernel⟩
def m_is_between : SM := (sRet (eAnd (eCall [false] false F_is_whole (aCons (rVar 0) aNil)) (eChain le2 le2 (rVar 1) (rVar 0) (rVar 2))))
def F_is_between : List D → FRes := runF [false, false, false] 3 m_is_between
theorem fn_is_between {P : Program} {w : World} {K : PySem.W.Frag} {mg : Str → Option Value} {base : Heap} {f : Addr} {fd : FuncData} (D : FnP K "is_between" S_is_between f fd)  (h_is_whole : Has P w K mg base 1 "is_whole" [false] F_is_whole)  : FnOk P w K mg base (L2.CX P w) 2 f fd ["x", "least", "most"] (spF K mg [false, false, false] F_is_between) := by
  refine fn_defD (k := 1) D sc_is_between rfl fun cdv A outer s H E hr => ?_
  have c := cd_of (X := cxOf (L2.CX P w) P w K mg base N_is_between "is_between" (defScope S_is_between) f cdv A outer s H E) hr
  have tk := takes_of (X := cxOf (L2.CX P w) P w K mg base N_is_between "is_between" (defScope S_is_between) f cdv A outer s H E) (E := E) rfl rfl rfl rfl
  have nd := sc_is_between.nd
  exact (dss_one (ds_ret (de_and (de_callH h_is_whole hr rfl tk (da_cons (dr_var (pv 0)) da_nil) (by omega)) (de_one (de_chain (op_le2 c) o_le2 (op_le2 c) o_le2 (dr_var (pv 1)) (dr_var (pv 0)) (dr_var (pv 2)))))))
theorem has_is_between {P : Program} {w : World} {K : PySem.W.Frag} {mg : Str → Option Value} {base : Heap} {f : Addr} {fd : FuncData} (D : FnP K "is_between" S_is_between f fd) (g : mg "is_between" = some (.ref f)) (h_is_whole : Has P w K mg base 1 "is_whole" [false] F_is_whole)  : Has P w K mg base 2 "is_between" [false, false, false] F_is_between :=
  has_of D (fn_is_between D h_is_whole) g (fun _ _ _ _ _ _ us hl => match us, hl with | [_, _, _], _ => rfl)
/-! rule_in -/
abbrev N_rule_in : List Str := ["row", "words", "word", "parts"]
theorem sc_rule_in : FnScope N_rule_in ["row"] (defScope S_rule_in) := ⟨rfl, rfl, rfl, by decide +kernel, rfl, by decide +kernel, by decide +kernel⟩
def m_rule_in : SM := (sSeq (sSet 1 (eSplit (eVar 0) (eC (.str " ")))) (sSeq (sPar 2 3 (lCons (eOp2 ixD (rVar 1) (rOf (eC (.int 0)))) (lCons (eSl (rVar 1) (oSome (eC (.int 1))) oNo) lNil))) (sSeq (sIf (tOfE (eOp2 eqO (rVar 2) (rOf (eC (.str "wheel"))))) (sRet (eTup (lCons (eVar 2) (lCons (eCallB tuple3D (aCons (rVar 3) aNil)) lNil)))) sNil) (sSeq (sIf (tOfE (eOp2 eqO (rVar 2) (rOf (eC (.str "behind"))))) (sRet (eOp2 addD (rOf (eTup (lCons (eVar 2) lNil))) (rOf (eCallB tuple3D (aCons (rVar 3) aNil))))) sNil) (sSeq (sIf (tAndM (tOfE (eOp2 eqO (rVar 2) (rOf (eC (.str "never"))))) (tOfE (eOp2 eqO (rOf (eCallB lenD (aCons (rVar 3) aNil))) (rOf (eC (.int 4)))))) (sRet (eTup (lCons (eVar 2) (lCons (eOp2 ixD (rVar 3) (rOf (eC (.int 0)))) (lCons (eCall [false] false F_days_in (aCons (rOf (eOp2 ixD (rVar 3) (rOf (eC (.int 1))))) aNil)) (lCons (eCall [false] false F_number_in (aCons (rOf (eOp2 ixD (rVar 3) (rOf (eC (.int 2))))) aNil)) (lCons (eCall [false] false F_number_in (aCons (rOf (eOp2 ixD (rVar 3) (rOf (eC (.int 3))))) aNil)) lNil))))))) sNil) (sSeq (sIf (tAndM (tOfE (eOp2 eqO (rVar 2) (rOf (eC (.str "most"))))) (tOfE (eOp2 eqO (rOf (eCallB lenD (aCons (rVar 3) aNil))) (rOf (eC (.int 3)))))) (sRet (eTup (lCons (eVar 2) (lCons (eOp2 ixD (rVar 3) (rOf (eC (.int 0)))) (lCons (eCall [false] false F_number_in (aCons (rOf (eOp2 ixD (rVar 3) (rOf (eC (.int 1))))) aNil)) (lCons (eCall [false] false F_number_in (aCons (rOf (eOp2 ixD (rVar 3) (rOf (eC (.int 2))))) aNil)) lNil)))))) sNil) (sSeq (sIf (tOfE (eOp2 eqO (rOf (eCallB lenD (aCons (rVar 3) aNil))) (rOf (eC (.int 1))))) (sRet (eTup (lCons (eVar 2) (lCons (eCall [false] false F_number_in (aCons (rOf (eOp2 ixD (rVar 3) (rOf (eC (.int 0))))) aNil)) lNil)))) sNil) (sRet (eC .non)))))))))
def F_rule_in : List D → FRes := runF [false] 4 m_rule_in
theorem fn_rule_in {P : Program} {w : World} {K : PySem.W.Frag} {mg : Str → Option Value} {base : Heap} {f : Addr} {fd : FuncData} (D : FnP K "rule_in" S_rule_in f fd)  (h_days_in : Has P w K mg base 1 "days_in" [false] F_days_in) (h_number_in : Has P w K mg base 1 "number_in" [false] F_number_in) (n_tuple : mg "tuple" = none) (n_len : mg "len" = none) : FnOk P w K mg base (L2.CX P w) 2 f fd ["row"] (spF K mg [false] F_rule_in) := by
  refine fn_defD (k := 1) D sc_rule_in rfl fun cdv A outer s H E hr => ?_
  have c := cd_of (X := cxOf (L2.CX P w) P w K mg base N_rule_in "rule_in" (defScope S_rule_in) f cdv A outer s H E) hr
  have tk := takes_of (X := cxOf (L2.CX P w) P w K mg base N_rule_in "rule_in" (defScope S_rule_in) f cdv A outer s H E) (E := E) rfl rfl rfl rfl
  have nd := sc_rule_in.nd
  exact (dss_cons (ds_set (i := 1) nd rfl (by first | exact Or.inl rfl | exact Or.inr rfl) (de_split (de_var (pv 0)) de_str)) (dss_cons (ds_par (i := 2) (j := 3) c nd rfl rfl (by decide) rfl rfl (dl_cons (de_ix c (dr_var (pv 1)) (dr_e de_int)) (dl_cons (de_sl (dr_var (pv 1)) (do_some de_int) do_none) dl_nil)) (by rfl)) (dss_cons (ds_if (dt_cmp (op_eq2 c) o_eq (dr_var (pv 2)) (dr_e de_str) (by with_unfolding_all rfl)) (dss_one (ds_ret (de_tup (dl_cons (de_var (pv 2)) (dl_cons (de_callT (call_tup3 c.calm) f_tup3 rfl n_tuple bt_tuple (da_cons (dr_var (pv 3)) da_nil)) dl_nil))))) dss_nil) (dss_cons (ds_if (dt_cmp (op_eq2 c) o_eq (dr_var (pv 2)) (dr_e de_str) (by with_unfolding_all rfl)) (dss_one (ds_ret (de_op op_add4 o_add (dr_e (de_tup (dl_cons (de_var (pv 2)) dl_nil))) (dr_e (de_callT (call_tup3 c.calm) f_tup3 rfl n_tuple bt_tuple (da_cons (dr_var (pv 3)) da_nil)))))) dss_nil) (dss_cons (ds_if (dt_w (dw_and (dt_cmp (op_eq2 c) o_eq (dr_var (pv 2)) (dr_e de_str) (by with_unfolding_all rfl)) (dw_and1 (dt_cmp (op_eq2 c) o_eq (dr_e (de_callB call_lenA f_len rfl n_len bt_len (da_cons (dr_var (pv 3)) da_nil))) (dr_e de_int) (by with_unfolding_all rfl))))) (dss_one (ds_ret (de_tup (dl_cons (de_var (pv 2)) (dl_cons (de_ix c (dr_var (pv 3)) (dr_e de_int)) (dl_cons (de_callH h_days_in hr rfl tk (da_cons (dr_e (de_ix c (dr_var (pv 3)) (dr_e de_int))) da_nil) (by omega)) (dl_cons (de_callH h_number_in hr rfl tk (da_cons (dr_e (de_ix c (dr_var (pv 3)) (dr_e de_int))) da_nil) (by omega)) (dl_cons (de_callH h_number_in hr rfl tk (da_cons (dr_e (de_ix c (dr_var (pv 3)) (dr_e de_int))) da_nil) (by omega)) dl_nil)))))))) dss_nil) (dss_cons (ds_if (dt_w (dw_and (dt_cmp (op_eq2 c) o_eq (dr_var (pv 2)) (dr_e de_str) (by with_unfolding_all rfl)) (dw_and1 (dt_cmp (op_eq2 c) o_eq (dr_e (de_callB call_lenA f_len rfl n_len bt_len (da_cons (dr_var (pv 3)) da_nil))) (dr_e de_int) (by with_unfolding_all rfl))))) (dss_one (ds_ret (de_tup (dl_cons (de_var (pv 2)) (dl_cons (de_ix c (dr_var (pv 3)) (dr_e de_int)) (dl_cons (de_callH h_number_in hr rfl tk (da_cons (dr_e (de_ix c (dr_var (pv 3)) (dr_e de_int))) da_nil) (by omega)) (dl_cons (de_callH h_number_in hr rfl tk (da_cons (dr_e (de_ix c (dr_var (pv 3)) (dr_e de_int))) da_nil) (by omega)) dl_nil))))))) dss_nil) (dss_cons (ds_if (dt_cmp (op_eq2 c) o_eq (dr_e (de_callB call_lenA f_len rfl n_len bt_len (da_cons (dr_var (pv 3)) da_nil))) (dr_e de_int) (by with_unfolding_all rfl)) (dss_one (ds_ret (de_tup (dl_cons (de_var (pv 2)) (dl_cons (de_callH h_number_in hr rfl tk (da_cons (dr_e (de_ix c (dr_var (pv 3)) (dr_e de_int))) da_nil) (by omega)) dl_nil))))) dss_nil) (dss_one (ds_ret de_non)))))))))
theorem has_rule_in {P : Program} {w : World} {K : PySem.W.Frag} {mg : Str → Option Value} {base : Heap} {f : Addr} {fd : FuncData} (D : FnP K "rule_in" S_rule_in f fd) (g : mg "rule_in" = some (.ref f)) (h_days_in : Has P w K mg base 1 "days_in" [false] F_days_in) (h_number_in : Has P w K mg base 1 "number_in" [false] F_number_in) (n_tuple : mg "tuple" = none) (n_len : mg "len" = none) : Has P w K mg base 2 "rule_in" [false] F_rule_in :=
  has_of D (fn_rule_in D h_days_in h_number_in n_tuple n_len) g (fun _ _ _ _ _ _ us hl => match us, hl with | [_], _ => rfl)
/-! _law_any_name -/
abbrev N__law_any_name : List Str := ["_law_purse_here", "_law_words", "_law_letters", "_law_k"]
theorem sc__law_any_name : FnScope N__law_any_name ["_law_purse_here"] (defScope S__law_any_name) := ⟨rfl, rfl, rfl, by decide +kernel, rfl, by decide +kernel, by decide +kernel⟩
def m__law_any_name : SM := (sSeq (sSet 1 (eLst (lCons (eC (.str "song")) (lCons (eC (.str "singer")) (lCons (eC (.str "behind")) (lCons (eC (.str "never")) (lCons (eC (.str "most")) (lCons (eC (.str "fresh")) (lCons (eC (.str "wheel")) (lCons (eC (.str "any")) (lCons (eC (.str "turn")) (lCons (eC (.str "least")) (lCons (eC (.str "ahead")) (lCons (eC (.str "hand")) lNil)))))))))))))) (sSeq (sIf (tOfE (eOp2 eqO (rOf (eCall [true, false] false F__law_pick (aCons (rVar 0) (aCons (rOf (eC (.int 3))) aNil)))) (rOf (eC (.int 0))))) (sRet (eOp2 ixD (rVar 1) (rOf (eCall [true, false] false F__law_pick (aCons (rVar 0) (aCons (rOf (eC (.int 12))) aNil)))))) sNil) (sSeq (sSet 2 (eC (.str "abcdefghijklmnopqrstuvwxyz"))) (sRet (eJoin (eC (.str "")) (eComp (iRange1 (eOp2 addD (rOf (eC (.int 1))) (rOf (eCall [true, false] false F__law_pick (aCons (rVar 0) (aCons (rOf (eC (.int 8))) aNil)))))) (gNm 3) tYesM (eOp2 ixD (rVar 2) (rOf (eCall [true, false] false F__law_pick (aCons (rVar 0) (aCons (rOf (eC (.int 26))) aNil))))) [3]))))))
def F__law_any_name : List D → FRes := runF [true] 4 m__law_any_name
theorem fn__law_any_name {P : Program} {w : World} {K : PySem.W.Frag} {mg : Str → Option Value} {base : Heap} {f : Addr} {fd : FuncData} (D : FnP K "_law_any_name" S__law_any_name f fd)  (h__law_pick : Has P w K mg base 1 "_law_pick" [true, false] F__law_pick) (n_range : mg "range" = none) : FnOk P w K mg base (L2.CX P w) 2 f fd ["_law_purse_here"] (spF K mg [true] F__law_any_name) := by
  refine fn_defD (k := 1) D sc__law_any_name rfl fun cdv A outer s H E hr => ?_
  have c := cd_of (X := cxOf (L2.CX P w) P w K mg base N__law_any_name "_law_any_name" (defScope S__law_any_name) f cdv A outer s H E) hr
  have tk := takes_of (X := cxOf (L2.CX P w) P w K mg base N__law_any_name "_law_any_name" (defScope S__law_any_name) f cdv A outer s H E) (E := E) rfl rfl rfl rfl
  have nd := sc__law_any_name.nd
  exact (dss_cons (ds_set (i := 1) nd rfl (by first | exact Or.inl rfl | exact Or.inr rfl) (de_f (df_lst (dl_cons de_str (dl_cons de_str (dl_cons de_str (dl_cons de_str (dl_cons de_str (dl_cons de_str (dl_cons de_str (dl_cons de_str (dl_cons de_str (dl_cons de_str (dl_cons de_str (dl_cons de_str dl_nil))))))))))))))) (dss_cons (ds_if (dt_cmp (op_eq2 c) o_eq (dr_e (de_callH h__law_pick hr rfl tk (da_cons (dr_var (pv 0)) (da_cons (dr_e de_int) da_nil)) (by omega))) (dr_e de_int) (by with_unfolding_all rfl)) (dss_one (ds_ret (de_ix c (dr_var (pv 1)) (dr_e (de_callH h__law_pick hr rfl tk (da_cons (dr_var (pv 0)) (da_cons (dr_e de_int) da_nil)) (by omega)))))) dss_nil) (dss_cons (ds_set (i := 2) nd rfl (by first | exact Or.inl rfl | exact Or.inr rfl) de_str) (dss_one (ds_ret (de_join de_str (de_f (df_comp c nd (di_range1 rfl n_range (de_op op_add4 o_add (dr_e de_int) (dr_e (de_callH h__law_pick hr rfl tk (da_cons (dr_var (pv 0)) (da_cons (dr_e de_int) da_nil)) (by omega))))) (blkOk_by (N := N__law_any_name) (sc := defScope S__law_any_name) (own := [("_law_k", 3)]) (by decide +kernel)) (fun _ _ _ _ _ => (dg_name (i := 3) nd rfl (by first | exact Or.inl rfl | exact Or.inr rfl))) (fun _ _ _ _ _ => dts_nil) (fun _ _ _ _ _ => (de_ix c.blk (dr_var (pv 2)) (dr_e (de_callH h__law_pick hr rfl takes0 (da_cons (dr_var (pv 0)) (da_cons (dr_e de_int) da_nil)) (by omega)))))))))))))
theorem has__law_any_name {P : Program} {w : World} {K : PySem.W.Frag} {mg : Str → Option Value} {base : Heap} {f : Addr} {fd : FuncData} (D : FnP K "_law_any_name" S__law_any_name f fd) (g : mg "_law_any_name" = some (.ref f)) (h__law_pick : Has P w K mg base 1 "_law_pick" [true, false] F__law_pick) (n_range : mg "range" = none) : Has P w K mg base 2 "_law_any_name" [true] F__law_any_name :=
  has_of D (fn__law_any_name D h__law_pick n_range) g (fun _ _ _ _ _ _ us hl => match us, hl with | [_], _ => rfl)
/-! _law_number -/
abbrev N__law_number : List Str := ["_law_purse_here", "_law_least", "_law_most", "_law_some"]
theorem sc__law_number : FnScope N__law_number ["_law_purse_here", "_law_least", "_law_most"] (defScope S__law_number) := ⟨rfl, rfl, rfl, by decide +kernel, rfl, by decide +kernel, by decide +kernel⟩
def m__law_number : SM := (sSeq (sSet 3 (eLst (lCons (eVar 1) (lCons (eVar 2) (lCons (eOp2 addD (rVar 1) (rOf (eC (.int 1)))) (lCons (eOp2 subD (rVar 2) (rOf (eC (.int 1)))) lNil)))))) (sRet (eOp2 ixD (rOf (eOp2 catD (rVar 3) (rOf (eOp2 repD (rOf (eLst (lCons (eOp2 addD (rVar 1) (rOf (eCall [true, false] false F__law_pick (aCons (rVar 0) (aCons (rOf (eOp2 addD (rOf (eOp2 subD (rVar 2) (rVar 1))) (rOf (eC (.int 1))))) aNil))))) lNil))) (rOf (eC (.int 4))))))) (rOf (eCall [true, false] false F__law_pick (aCons (rVar 0) (aCons (rOf (eC (.int 8))) aNil)))))))
def F__law_number : List D → FRes := runF [true, false, false] 4 m__law_number
theorem fn__law_number {P : Program} {w : World} {K : PySem.W.Frag} {mg : Str → Option Value} {base : Heap} {f : Addr} {fd : FuncData} (D : FnP K "_law_number" S__law_number f fd)  (h__law_pick : Has P w K mg base 1 "_law_pick" [true, false] F__law_pick)  : FnOk P w K mg base (L2.CX P w) 2 f fd ["_law_purse_here", "_law_least", "_law_most"] (spF K mg [true, false, false] F__law_number) := by
  refine fn_defD (k := 1) D sc__law_number rfl fun cdv A outer s H E hr => ?_
  have c := cd_of (X := cxOf (L2.CX P w) P w K mg base N__law_number "_law_number" (defScope S__law_number) f cdv A outer s H E) hr
  have tk := takes_of (X := cxOf (L2.CX P w) P w K mg base N__law_number "_law_number" (defScope S__law_number) f cdv A outer s H E) (E := E) rfl rfl rfl rfl
  have nd := sc__law_number.nd
  exact (dss_cons (ds_set (i := 3) nd rfl (by first | exact Or.inl rfl | exact Or.inr rfl) (de_f (df_lst (dl_cons (de_var (pv 1)) (dl_cons (de_var (pv 2)) (dl_cons (de_op op_add4 o_add (dr_var (pv 1)) (dr_e de_int)) (dl_cons (de_op op_sub o_sub (dr_var (pv 2)) (dr_e de_int)) dl_nil))))))) (dss_one (ds_ret (de_ix c (dr_e (de_f (df_op op_cat o_cat (dr_var (pv 3)) (dr_e (de_f (df_op op_rep o_rep (dr_e (de_f (df_lst (dl_cons (de_op op_add4 o_add (dr_var (pv 1)) (dr_e (de_callH h__law_pick hr rfl tk (da_cons (dr_var (pv 0)) (da_cons (dr_e (de_op op_add4 o_add (dr_e (de_op op_sub o_sub (dr_var (pv 2)) (dr_var (pv 1)))) (dr_e de_int))) da_nil)) (by omega)))) dl_nil)))) (dr_e de_int))))))) (dr_e (de_callH h__law_pick hr rfl tk (da_cons (dr_var (pv 0)) (da_cons (dr_e de_int) da_nil)) (by omega)))))))
theorem has__law_number {P : Program} {w : World} {K : PySem.W.Frag} {mg : Str → Option Value} {base : Heap} {f : Addr} {fd : FuncData} (D : FnP K "_law_number" S__law_number f fd) (g : mg "_law_number" = some (.ref f)) (h__law_pick : Has P w K mg base 1 "_law_pick" [true, false] F__law_pick)  : Has P w K mg base 2 "_law_number" [true, false, false] F__law_number :=
  has_of D (fn__law_number D h__law_pick) g (fun _ _ _ _ _ _ us hl => match us, hl with | [_, _, _], _ => rfl)
/-! _law_days_in -/
abbrev N__law_days_in : List Str := ["_law_word", "_law_days", "_law_sign"]
theorem sc__law_days_in : FnScope N__law_days_in ["_law_word"] (defScope S__law_days_in) := ⟨rfl, rfl, rfl, by decide +kernel, rfl, by decide +kernel, by decide +kernel⟩
def m__law_days_in : SM := (sSeq (sSet 1 (eComp (iVal (eVar 0)) (gNm 2) tYesM (eCall [false, false, false] false F__law_figures (aCons (rVar 2) (aCons (rOf (eC (.int 0))) (aCons (rOf (eC (.int 6))) aNil)))) [2])) (sSeq (sIf (tOrM (tOfE (eOp2 inD (rOf (eC .non)) (rVar 1))) (tOrM (tOfE (eOp2 eqO (rVar 1) (rOf (eLst lNil)))) (tOfE (eOp2 neO (rVar 1) (rOf (eSortI (eVar 1))))))) (sRet (eC .non)) sNil) (sRet (eCallB tuple3D (aCons (rVar 1) aNil)))))
def F__law_days_in : List D → FRes := runF [false] 3 m__law_days_in
theorem fn__law_days_in {P : Program} {w : World} {K : PySem.W.Frag} {mg : Str → Option Value} {base : Heap} {f : Addr} {fd : FuncData} (D : FnP K "_law_days_in" S__law_days_in f fd)  (h__law_figures : Has P w K mg base 1 "_law_figures" [false, false, false] F__law_figures) (n_sorted : mg "sorted" = none) (n_set : mg "set" = none) (n_tuple : mg "tuple" = none) : FnOk P w K mg base (L2.CX P w) 2 f fd ["_law_word"] (spF K mg [false] F__law_days_in) := by
  refine fn_defD (k := 1) D sc__law_days_in rfl fun cdv A outer s H E hr => ?_
  have c := cd_of (X := cxOf (L2.CX P w) P w K mg base N__law_days_in "_law_days_in" (defScope S__law_days_in) f cdv A outer s H E) hr
  have tk := takes_of (X := cxOf (L2.CX P w) P w K mg base N__law_days_in "_law_days_in" (defScope S__law_days_in) f cdv A outer s H E) (E := E) rfl rfl rfl rfl
  have nd := sc__law_days_in.nd
  exact (dss_cons (ds_setLc (i := 1) c nd rfl rfl (sw_true rfl rfl rfl (by decide +kernel)) (di_val (de_var (pv 0))) (blkOk_by (N := N__law_days_in) (sc := defScope S__law_days_in) (own := [("_law_sign", 2)]) (by decide +kernel)) (fun _ _ _ _ _ => (dg_name (i := 2) nd rfl (by first | exact Or.inl rfl | exact Or.inr rfl))) (fun _ _ _ _ _ => dts_nil) (fun _ _ _ _ _ => (de_callH h__law_figures hr rfl takes0 (da_cons (dr_var (pv 2)) (da_cons (dr_e de_int) (da_cons (dr_e de_int) da_nil))) (by omega)))) (dss_cons (ds_if (dt_w (dw_or (dt_cmp (op_in c) o_in (dr_e de_non) (dr_var (pv 1)) (by with_unfolding_all rfl)) (dw_or (dt_cmp (op_eq2 c) o_eq (dr_var (pv 1)) (dr_e (de_f (df_lst dl_nil))) (by with_unfolding_all rfl)) (dw_or1 (dt_cmp (op_ne2 c) o_ne (dr_var (pv 1)) (dr_e (de_f (df_sortI c rfl n_sorted rfl n_set bt_sorted (de_var (pv 1))))) (by with_unfolding_all rfl)))))) (dss_one (ds_ret de_non)) dss_nil) (dss_one (ds_ret (de_callT (call_tup3 c.calm) f_tup3 rfl n_tuple bt_tuple (da_cons (dr_var (pv 1)) da_nil))))))
theorem has__law_days_in {P : Program} {w : World} {K : PySem.W.Frag} {mg : Str → Option Value} {base : Heap} {f : Addr} {fd : FuncData} (D : FnP K "_law_days_in" S__law_days_in f fd) (g : mg "_law_days_in" = some (.ref f)) (h__law_figures : Has P w K mg base 1 "_law_figures" [false, false, false] F__law_figures) (n_sorted : mg "sorted" = none) (n_set : mg "set" = none) (n_tuple : mg "tuple" = none) : Has P w K mg base 2 "_law_days_in" [false] F__law_days_in :=
  has_of D (fn__law_days_in D h__law_figures n_sorted n_set n_tuple) g (fun _ _ _ _ _ _ us hl => match us, hl with | [_], _ => rfl)
/-! _law_words_in -/
abbrev N__law_words_in : List Str := ["_law_words", "_law_word"]
theorem sc__law_words_in : FnScope N__law_words_in ["_law_words"] (defScope S__law_words_in) := ⟨rfl, rfl, rfl, by decide +kernel, rfl, by decide +kernel, by decide +kernel⟩
def m__law_words_in : SM := (sSeq (sFor (iVal (eVar 0)) (gNm 1) (sIf (tAndM (tOfE (eOp2 notInD (rVar 1) (rOf (eTup (lCons (eC (.str "any")) (lCons (eC (.str "fresh")) lNil)))))) (tOfE (eOp2 isD (rOf (eCall [false] false F__law_kind_in (aCons (rVar 1) aNil))) (rOf (eC .non))))) (sRet (eC .non)) sNil)) (sRet (eOp2 ixD (rOf (eLst (lCons (eC .non) (lCons (eCallB tuple3D (aCons (rVar 0) aNil)) lNil)))) (rOf (eCallB intD (aCons (rOf (eChain le2 le2 (rOf (eC (.int 1))) (rOf (eCallB lenD (aCons (rVar 0) aNil))) (rOf (eC (.int 8))))) aNil))))))
def F__law_words_in : List D → FRes := runF [false] 2 m__law_words_in
theorem fn__law_words_in {P : Program} {w : World} {K : PySem.W.Frag} {mg : Str → Option Value} {base : Heap} {f : Addr} {fd : FuncData} (D : FnP K "_law_words_in" S__law_words_in f fd)  (h__law_kind_in : Has P w K mg base 1 "_law_kind_in" [false] F__law_kind_in) (n_tuple : mg "tuple" = none) (n_len : mg "len" = none) (n_int : mg "int" = none) : FnOk P w K mg base (L2.CX P w) 2 f fd ["_law_words"] (spF K mg [false] F__law_words_in) := by
  refine fn_defD (k := 1) D sc__law_words_in rfl fun cdv A outer s H E hr => ?_
  have c := cd_of (X := cxOf (L2.CX P w) P w K mg base N__law_words_in "_law_words_in" (defScope S__law_words_in) f cdv A outer s H E) hr
  have tk := takes_of (X := cxOf (L2.CX P w) P w K mg base N__law_words_in "_law_words_in" (defScope S__law_words_in) f cdv A outer s H E) (E := E) rfl rfl rfl rfl
  have nd := sc__law_words_in.nd
  exact (dss_cons (ds_for c (passes_of rfl) (di_val (de_var (pv 0))) (dg_name (i := 1) nd rfl (by first | exact Or.inl rfl | exact Or.inr rfl)) (dss_one (ds_if (dt_w (dw_and (dt_cmp (op_notIn c) o_notIn (dr_var (pv 1)) (dr_e (de_tup (dl_cons de_str (dl_cons de_str dl_nil)))) (by with_unfolding_all rfl)) (dw_and1 (dt_cmp op_isC o_is (dr_e (de_callH h__law_kind_in hr rfl tk (da_cons (dr_var (pv 1)) da_nil) (by omega))) (dr_e de_non) (by with_unfolding_all rfl))))) (dss_one (ds_ret de_non)) dss_nil))) (dss_one (ds_ret (de_ix c (dr_e (de_f (df_lst (dl_cons de_non (dl_cons (de_callT (call_tup3 c.calm) f_tup3 rfl n_tuple bt_tuple (da_cons (dr_var (pv 0)) da_nil)) dl_nil))))) (dr_e (de_callT call_int1 f_int rfl n_int bt_int (da_cons (dr_e (de_chain (op_le2 c) o_le2 (op_le2 c) o_le2 (dr_e de_int) (dr_e (de_callB call_lenA f_len rfl n_len bt_len (da_cons (dr_var (pv 0)) da_nil))) (dr_e de_int))) da_nil)))))))
theorem has__law_words_in {P : Program} {w : World} {K : PySem.W.Frag} {mg : Str → Option Value} {base : Heap} {f : Addr} {fd : FuncData} (D : FnP K "_law_words_in" S__law_words_in f fd) (g : mg "_law_words_in" = some (.ref f)) (h__law_kind_in : Has P w K mg base 1 "_law_kind_in" [false] F__law_kind_in) (n_tuple : mg "tuple" = none) (n_len : mg "len" = none) (n_int : mg "int" = none) : Has P w K mg base 2 "_law_words_in" [false] F__law_words_in :=
  has_of D (fn__law_words_in D h__law_kind_in n_tuple n_len n_int) g (fun _ _ _ _ _ _ us hl => match us, hl with | [_], _ => rfl)
/-! _law_sign_amiss -/
abbrev N__law_sign_amiss : List Str := ["_law_purse_here", "_law_text", "_law_signs", "_law_at", "_law_sign", "_law_way"]
theorem sc__law_sign_amiss : FnScope N__law_sign_amiss ["_law_purse_here", "_law_text"] (defScope S__law_sign_amiss) := ⟨rfl, rfl, rfl, by decide +kernel, rfl, by decide +kernel, by decide +kernel⟩
def m__law_sign_amiss : SM := (sSeq (sSet 2 (eC (.str " !\"#$&'()*+,-./0123456789:;<=>?@ABCDEFGHIJKLMNOPQRSTUVWXYZ[\\]^_`abcdefghijklmnopqrstuvwxyz{|}~\n"))) (sSeq (sSet 3 (eOp2 ixD (rOf (eLst (lCons (eCall [true, false] false F__law_pick (aCons (rVar 0) (aCons (rOf (eOp2 addD (rOf (eCallB lenD (aCons (rVar 1) aNil))) (rOf (eC (.int 1))))) aNil))) (lCons (eCallB lenD (aCons (rVar 1) aNil)) (lCons (eC (.int 0)) lNil))))) (rOf (eOp2 ixD (rOf (eLst (lCons (eC (.int 0)) (lCons (eC (.int 0)) (lCons (eC (.int 0)) (lCons (eC (.int 1)) (lCons (eC (.int 2)) lNil))))))) (rOf (eCall [true, false] false F__law_pick (aCons (rVar 0) (aCons (rOf (eC (.int 5))) aNil)))))))) (sSeq (sSet 4 (eOp2 ixD (rOf (eOp2 addD (rVar 2) (rOf (eC (.str "0123456789 \n"))))) (rOf (eCall [true, false] false F__law_pick (aCons (rVar 0) (aCons (rOf (eOp2 addD (rOf (eCallB lenD (aCons (rVar 2) aNil))) (rOf (eC (.int 12))))) aNil)))))) (sSeq (sSet 5 (eCall [true, false] false F__law_pick (aCons (rVar 0) (aCons (rOf (eC (.int 3))) aNil)))) (sRet (eOp2 addD (rOf (eOp2 addD (rOf (eSl (rVar 1) oNo (oSome (eVar 3)))) (rOf (eOp2 mul4 (rVar 4) (rOf (eCallB intD (aCons (rOf (eOp2 gt2 (rVar 5) (rOf (eC (.int 0))))) aNil))))))) (rOf (eSl (rVar 1) (oSome (eOp2 addD (rVar 3) (rOf (eCallB intD (aCons (rOf (eOp2 lt2 (rVar 5) (rOf (eC (.int 2))))) aNil))))) oNo))))))))
def F__law_sign_amiss : List D → FRes := runF [true, false] 6 m__law_sign_amiss
theorem fn__law_sign_amiss {P : Program} {w : World} {K : PySem.W.Frag} {mg : Str → Option Value} {base : Heap} {f : Addr} {fd : FuncData} (D : FnP K "_law_sign_amiss" S__law_sign_amiss f fd)  (h__law_pick : Has P w K mg base 1 "_law_pick" [true, false] F__law_pick) (n_len : mg "len" = none) (n_int : mg "int" = none) : FnOk P w K mg base (L2.CX P w) 2 f fd ["_law_purse_here", "_law_text"] (spF K mg [true, false] F__law_sign_amiss) := by
  refine fn_defD (k := 1) D sc__law_sign_amiss rfl fun cdv A outer s H E hr => ?_
  have c := cd_of (X := cxOf (L2.CX P w) P w K mg base N__law_sign_amiss "_law_sign_amiss" (defScope S__law_sign_amiss) f cdv A outer s H E) hr
  have tk := takes_of (X := cxOf (L2.CX P w) P w K mg base N__law_sign_amiss "_law_sign_amiss" (defScope S__law_sign_amiss) f cdv A outer s H E) (E := E) rfl rfl rfl rfl
  have nd := sc__law_sign_amiss.nd
  exact (dss_cons (ds_set (i := 2) nd rfl (by first | exact Or.inl rfl | exact Or.inr rfl) de_str) (dss_cons (ds_set (i := 3) nd rfl (by first | exact Or.inl rfl | exact Or.inr rfl) (de_ix c (dr_e (de_f (df_lst (dl_cons (de_callH h__law_pick hr rfl tk (da_cons (dr_var (pv 0)) (da_cons (dr_e (de_op op_add4 o_add (dr_e (de_callB call_lenA f_len rfl n_len bt_len (da_cons (dr_var (pv 1)) da_nil))) (dr_e de_int))) da_nil)) (by omega)) (dl_cons (de_callB call_lenA f_len rfl n_len bt_len (da_cons (dr_var (pv 1)) da_nil)) (dl_cons de_int dl_nil)))))) (dr_e (de_ix c (dr_e (de_f (df_lst (dl_cons de_int (dl_cons de_int (dl_cons de_int (dl_cons de_int (dl_cons de_int dl_nil)))))))) (dr_e (de_callH h__law_pick hr rfl tk (da_cons (dr_var (pv 0)) (da_cons (dr_e de_int) da_nil)) (by omega))))))) (dss_cons (ds_set (i := 4) nd rfl (by first | exact Or.inl rfl | exact Or.inr rfl) (de_ix c (dr_e (de_op op_add4 o_add (dr_var (pv 2)) (dr_e de_str))) (dr_e (de_callH h__law_pick hr rfl tk (da_cons (dr_var (pv 0)) (da_cons (dr_e (de_op op_add4 o_add (dr_e (de_callB call_lenA f_len rfl n_len bt_len (da_cons (dr_var (pv 2)) da_nil))) (dr_e de_int))) da_nil)) (by omega))))) (dss_cons (ds_set (i := 5) nd rfl (by first | exact Or.inl rfl | exact Or.inr rfl) (de_callH h__law_pick hr rfl tk (da_cons (dr_var (pv 0)) (da_cons (dr_e de_int) da_nil)) (by omega))) (dss_one (ds_ret (de_op op_add4 o_add (dr_e (de_op op_add4 o_add (dr_e (de_sl (dr_var (pv 1)) do_none (do_some (de_var (pv 3))))) (dr_e (de_op op_mul4 o_mul4 (dr_var (pv 4)) (dr_e (de_callT call_int1 f_int rfl n_int bt_int (da_cons (dr_e (de_cmp (op_gt2 c) o_gt2 (dr_var (pv 5)) (dr_e de_int) (by with_unfolding_all rfl))) da_nil))))))) (dr_e (de_sl (dr_var (pv 1)) (do_some (de_op op_add4 o_add (dr_var (pv 3)) (dr_e (de_callT call_int1 f_int rfl n_int bt_int (da_cons (dr_e (de_cmp (op_lt2 c) o_lt2 (dr_var (pv 5)) (dr_e de_int) (by with_unfolding_all rfl))) da_nil))))) do_none)))))))))
theorem has__law_sign_amiss {P : Program} {w : World} {K : PySem.W.Frag} {mg : Str → Option Value} {base : Heap} {f : Addr} {fd : FuncData} (D : FnP K "_law_sign_amiss" S__law_sign_amiss f fd) (g : mg "_law_sign_amiss" = some (.ref f)) (h__law_pick : Has P w K mg base 1 "_law_pick" [true, false] F__law_pick) (n_len : mg "len" = none) (n_int : mg "int" = none) : Has P w K mg base 2 "_law_sign_amiss" [true, false] F__law_sign_amiss :=
  has_of D (fn__law_sign_amiss D h__law_pick n_len n_int) g (fun _ _ _ _ _ _ us hl => match us, hl with | [_, _], _ => rfl)
/-! _law_word_amiss -/
abbrev N__law_word_amiss : List Str := ["_law_purse_here", "_law_text", "_law_some", "_law_rows", "_law_at", "_law_words", "_law_place"]
theorem sc__law_word_amiss : FnScope N__law_word_amiss ["_law_purse_here", "_law_text"] (defScope S__law_word_amiss) := ⟨rfl, rfl, rfl, by decide +kernel, rfl, by decide +kernel, by decide +kernel⟩
def m__law_word_amiss : SM := (sSeq (sSet 2 (eLst (lCons (eC (.str "0")) (lCons (eC (.str "1")) (lCons (eC (.str "7")) (lCons (eC (.str "24")) (lCons (eC (.str "25")) (lCons (eC (.str "99")) (lCons (eC (.str "100")) (lCons (eC (.str "99999")) (lCons (eC (.str "100000")) (lCons (eC (.str "00")) (lCons (eC (.str "01")) (lCons (eC (.str "-1")) (lCons (eC (.str "+1")) (lCons (eC (.str "")) lNil)))))))))))))))) (sSeq (sSet 2 (eOp2 catD (rVar 2) (rOf (eLst (lCons (eC (.str "any")) (lCons (eC (.str "fresh")) (lCons (eC (.str "06")) lNil))))))) (sSeq (sSet 2 (eOp2 catD (rVar 2) (rOf (eLst (lCons (eC (.str "60")) (lCons (eC (.str "0123456")) (lCons (eC (.str "abcdefghi")) (lCons (eC (.str "A")) (lCons (eC (.str "song")) (lCons (eC (.str "singer")) (lCons (eC (.str "behind")) (lCons (eC (.str "never")) (lCons (eC (.str "most")) (lCons (eC (.str "wheel")) lNil)))))))))))))) (sSeq (sSet 2 (eOp2 catD (rVar 2) (rOf (eLst (lCons (eC (.str "pop")) (lCons (eC (.str "  ")) lNil)))))) (sSeq (sSet 3 (eSplit (eVar 1) (eC (.str "\n")))) (sSeq (sSet 4 (eCall [true, false] false F__law_pick (aCons (rVar 0) (aCons (rOf (eCallB lenD (aCons (rVar 3) aNil))) aNil)))) (sSeq (sSet 5 (eSplit (eOp2 ixD (rVar 3) (rVar 4)) (eC (.str " ")))) (sSeq (sSet 6 (eCall [true, false] false F__law_pick (aCons (rVar 0) (aCons (rOf (eOp2 addD (rOf (eCallB lenD (aCons (rVar 5) aNil))) (rOf (eC (.int 1))))) aNil)))) (sSeq (sSet 5 (eOp2 catD (rOf (eOp2 catD (rOf (eSl (rVar 5) oNo (oSome (eVar 6)))) (rOf (eLst (lCons (eOp2 ixD (rVar 2) (rOf (eCall [true, false] false F__law_pick (aCons (rVar 0) (aCons (rOf (eC (.int 29))) aNil))))) lNil))))) (rOf (eSl (rVar 5) (oSome (eOp2 addD (rVar 6) (rOf (eCall [true, false] false F__law_pick (aCons (rVar 0) (aCons (rOf (eC (.int 2))) aNil)))))) oNo)))) (sRet (eJoin (eC (.str "\n")) (eOp2 catD (rOf (eOp2 catD (rOf (eSl (rVar 3) oNo (oSome (eVar 4)))) (rOf (eLst (lCons (eJoin (eC (.str " ")) (eVar 5)) lNil))))) (rOf (eSl (rVar 3) (oSome (eOp2 addD (rVar 4) (rOf (eC (.int 1))))) oNo))))))))))))))
def F__law_word_amiss : List D → FRes := runF [true, false] 7 m__law_word_amiss
theorem fn__law_word_amiss {P : Program} {w : World} {K : PySem.W.Frag} {mg : Str → Option Value} {base : Heap} {f : Addr} {fd : FuncData} (D : FnP K "_law_word_amiss" S__law_word_amiss f fd)  (h__law_pick : Has P w K mg base 1 "_law_pick" [true, false] F__law_pick) (n_len : mg "len" = none) : FnOk P w K mg base (L2.CX P w) 2 f fd ["_law_purse_here", "_law_text"] (spF K mg [true, false] F__law_word_amiss) := by
  refine fn_defD (k := 1) D sc__law_word_amiss rfl fun cdv A outer s H E hr => ?_
  have c := cd_of (X := cxOf (L2.CX P w) P w K mg base N__law_word_amiss "_law_word_amiss" (defScope S__law_word_amiss) f cdv A outer s H E) hr
  have tk := takes_of (X := cxOf (L2.CX P w) P w K mg base N__law_word_amiss "_law_word_amiss" (defScope S__law_word_amiss) f cdv A outer s H E) (E := E) rfl rfl rfl rfl
  have nd := sc__law_word_amiss.nd
  exact (dss_cons (ds_set (i := 2) nd rfl (by first | exact Or.inl rfl | exact Or.inr rfl) (de_f (df_lst (dl_cons de_str (dl_cons de_str (dl_cons de_str (dl_cons de_str (dl_cons de_str (dl_cons de_str (dl_cons de_str (dl_cons de_str (dl_cons de_str (dl_cons de_str (dl_cons de_str (dl_cons de_str (dl_cons de_str (dl_cons de_str dl_nil))))))))))))))))) (dss_cons (ds_set (i := 2) nd rfl (by first | exact Or.inl rfl | exact Or.inr rfl) (de_f (df_op op_cat o_cat (dr_var (pv 2)) (dr_e (de_f (df_lst (dl_cons de_str (dl_cons de_str (dl_cons de_str dl_nil))))))))) (dss_cons (ds_set (i := 2) nd rfl (by first | exact Or.inl rfl | exact Or.inr rfl) (de_f (df_op op_cat o_cat (dr_var (pv 2)) (dr_e (de_f (df_lst (dl_cons de_str (dl_cons de_str (dl_cons de_str (dl_cons de_str (dl_cons de_str (dl_cons de_str (dl_cons de_str (dl_cons de_str (dl_cons de_str (dl_cons de_str dl_nil)))))))))))))))) (dss_cons (ds_set (i := 2) nd rfl (by first | exact Or.inl rfl | exact Or.inr rfl) (de_f (df_op op_cat o_cat (dr_var (pv 2)) (dr_e (de_f (df_lst (dl_cons de_str (dl_cons de_str dl_nil)))))))) (dss_cons (ds_set (i := 3) nd rfl (by first | exact Or.inl rfl | exact Or.inr rfl) (de_split (de_var (pv 1)) de_str)) (dss_cons (ds_set (i := 4) nd rfl (by first | exact Or.inl rfl | exact Or.inr rfl) (de_callH h__law_pick hr rfl tk (da_cons (dr_var (pv 0)) (da_cons (dr_e (de_callB call_lenA f_len rfl n_len bt_len (da_cons (dr_var (pv 3)) da_nil))) da_nil)) (by omega))) (dss_cons (ds_set (i := 5) nd rfl (by first | exact Or.inl rfl | exact Or.inr rfl) (de_split (de_ix c (dr_var (pv 3)) (dr_var (pv 4))) de_str)) (dss_cons (ds_set (i := 6) nd rfl (by first | exact Or.inl rfl | exact Or.inr rfl) (de_callH h__law_pick hr rfl tk (da_cons (dr_var (pv 0)) (da_cons (dr_e (de_op op_add4 o_add (dr_e (de_callB call_lenA f_len rfl n_len bt_len (da_cons (dr_var (pv 5)) da_nil))) (dr_e de_int))) da_nil)) (by omega))) (dss_cons (ds_set (i := 5) nd rfl (by first | exact Or.inl rfl | exact Or.inr rfl) (de_f (df_op op_cat o_cat (dr_e (de_f (df_op op_cat o_cat (dr_e (de_sl (dr_var (pv 5)) do_none (do_some (de_var (pv 6))))) (dr_e (de_f (df_lst (dl_cons (de_ix c (dr_var (pv 2)) (dr_e (de_callH h__law_pick hr rfl tk (da_cons (dr_var (pv 0)) (da_cons (dr_e de_int) da_nil)) (by omega)))) dl_nil))))))) (dr_e (de_sl (dr_var (pv 5)) (do_some (de_op op_add4 o_add (dr_var (pv 6)) (dr_e (de_callH h__law_pick hr rfl tk (da_cons (dr_var (pv 0)) (da_cons (dr_e de_int) da_nil)) (by omega))))) do_none))))) (dss_one (ds_ret (de_join de_str (de_f (df_op op_cat o_cat (dr_e (de_f (df_op op_cat o_cat (dr_e (de_sl (dr_var (pv 3)) do_none (do_some (de_var (pv 4))))) (dr_e (de_f (df_lst (dl_cons (de_join de_str (de_var (pv 5))) dl_nil))))))) (dr_e (de_sl (dr_var (pv 3)) (do_some (de_op op_add4 o_add (dr_var (pv 4)) (dr_e de_int))) do_none))))))))))))))))
theorem has__law_word_amiss {P : Program} {w : World} {K : PySem.W.Frag} {mg : Str → Option Value} {base : Heap} {f : Addr} {fd : FuncData} (D : FnP K "_law_word_amiss" S__law_word_amiss f fd) (g : mg "_law_word_amiss" = some (.ref f)) (h__law_pick : Has P w K mg base 1 "_law_pick" [true, false] F__law_pick) (n_len : mg "len" = none) : Has P w K mg base 2 "_law_word_amiss" [true, false] F__law_word_amiss :=
  has_of D (fn__law_word_amiss D h__law_pick n_len) g (fun _ _ _ _ _ _ us hl => match us, hl with | [_, _], _ => rfl)
/-! _law_row_amiss -/
abbrev N__law_row_amiss : List Str := ["_law_purse_here", "_law_text", "_law_rows", "_law_left", "_law_odd", "_law_extra", "_law_some", "_law_at", "_law_to"]
theorem sc__law_row_amiss : FnScope N__law_row_amiss ["_law_purse_here", "_law_text"] (defScope S__law_row_amiss) := ⟨rfl, rfl, rfl, by decide +kernel, rfl, by decide +kernel, by decide +kernel⟩
def m__law_row_amiss : SM := (sSeq (sSet 2 (eSplit (eVar 1) (eC (.str "\n")))) (sSeq (sPar 7 8 (lCons (eCall [true, false] false F__law_pick (aCons (rVar 0) (aCons (rOf (eCallB lenD (aCons (rVar 2) aNil))) aNil))) (lCons (eCall [true, false] false F__law_pick (aCons (rVar 0) (aCons (rOf (eCallB lenD (aCons (rVar 2) aNil))) aNil))) lNil))) (sSeq (sSet 3 (eOp2 addD (rOf (eSl (rVar 2) oNo (oSome (eVar 7)))) (rOf (eSl (rVar 2) (oSome (eOp2 addD (rVar 7) (rOf (eC (.int 1))))) oNo)))) (sSeq (sSet 4 (eLst (lCons (eC (.str "")) (lCons (eC (.str "fresh 5")) (lCons (eC (.str "wheel any")) (lCons (eC (.str "song 0")) (lCons (eC (.str "behind a b")) (lCons (eC (.str " ")) (lCons (eC (.str "wheel")) (lCons (eC (.str "never a 0 0 24")) lNil)))))))))) (sSeq (sSet 5 (eOp2 ixD (rVar 4) (rOf (eCall [true, false] false F__law_pick (aCons (rVar 0) (aCons (rOf (eC (.int 8))) aNil)))))) (sSeq (sSet 6 (eLst (lCons (eVar 3) (lCons (eOp2 addD (rOf (eOp2 addD (rOf (eSl (rVar 2) oNo (oSome (eVar 7)))) (rOf (eSl (rVar 2) (oSome (eVar 7)) (oSome (eOp2 addD (rVar 7) (rOf (eC (.int 1))))))))) (rOf (eSl (rVar 2) (oSome (eVar 7)) oNo))) (lCons (eOp2 addD (rOf (eOp2 addD (rOf (eSl (rVar 3) oNo (oSome (eVar 8)))) (rOf (eSl (rVar 2) (oSome (eVar 7)) (oSome (eOp2 addD (rVar 7) (rOf (eC (.int 1))))))))) (rOf (eSl (rVar 3) (oSome (eVar 8)) oNo))) lNil))))) (sSeq (sSet 6 (eOp2 catD (rVar 6) (rOf (eLst (lCons (eOp2 catD (rOf (eOp2 catD (rOf (eSl (rVar 2) oNo (oSome (eVar 7)))) (rOf (eLst (lCons (eVar 5) lNil))))) (rOf (eSl (rVar 2) (oSome (eVar 7)) oNo))) (lCons (eOp2 catD (rVar 2) (rOf (eLst (lCons (eVar 5) lNil)))) (lCons (eRev (rVar 2)) lNil))))))) (sRet (eJoin (eC (.str "\n")) (eOp2 ixD (rVar 6) (rOf (eCall [true, false] false F__law_pick (aCons (rVar 0) (aCons (rOf (eC (.int 6))) aNil))))))))))))))
def F__law_row_amiss : List D → FRes := runF [true, false] 9 m__law_row_amiss
theorem fn__law_row_amiss {P : Program} {w : World} {K : PySem.W.Frag} {mg : Str → Option Value} {base : Heap} {f : Addr} {fd : FuncData} (D : FnP K "_law_row_amiss" S__law_row_amiss f fd)  (h__law_pick : Has P w K mg base 1 "_law_pick" [true, false] F__law_pick) (n_len : mg "len" = none) : FnOk P w K mg base (L2.CX P w) 2 f fd ["_law_purse_here", "_law_text"] (spF K mg [true, false] F__law_row_amiss) := by
  refine fn_defD (k := 1) D sc__law_row_amiss rfl fun cdv A outer s H E hr => ?_
  have c := cd_of (X := cxOf (L2.CX P w) P w K mg base N__law_row_amiss "_law_row_amiss" (defScope S__law_row_amiss) f cdv A outer s H E) hr
  have tk := takes_of (X := cxOf (L2.CX P w) P w K mg base N__law_row_amiss "_law_row_amiss" (defScope S__law_row_amiss) f cdv A outer s H E) (E := E) rfl rfl rfl rfl
  have nd := sc__law_row_amiss.nd
  exact (dss_cons (ds_set (i := 2) nd rfl (by first | exact Or.inl rfl | exact Or.inr rfl) (de_split (de_var (pv 1)) de_str)) (dss_cons (ds_par (i := 7) (j := 8) c nd rfl rfl (by decide) rfl rfl (dl_cons (de_callH h__law_pick hr rfl tk (da_cons (dr_var (pv 0)) (da_cons (dr_e (de_callB call_lenA f_len rfl n_len bt_len (da_cons (dr_var (pv 2)) da_nil))) da_nil)) (by omega)) (dl_cons (de_callH h__law_pick hr rfl tk (da_cons (dr_var (pv 0)) (da_cons (dr_e (de_callB call_lenA f_len rfl n_len bt_len (da_cons (dr_var (pv 2)) da_nil))) da_nil)) (by omega)) dl_nil)) (by rfl)) (dss_cons (ds_set (i := 3) nd rfl (by first | exact Or.inl rfl | exact Or.inr rfl) (de_op op_add4 o_add (dr_e (de_sl (dr_var (pv 2)) do_none (do_some (de_var (pv 7))))) (dr_e (de_sl (dr_var (pv 2)) (do_some (de_op op_add4 o_add (dr_var (pv 7)) (dr_e de_int))) do_none)))) (dss_cons (ds_set (i := 4) nd rfl (by first | exact Or.inl rfl | exact Or.inr rfl) (de_f (df_lst (dl_cons de_str (dl_cons de_str (dl_cons de_str (dl_cons de_str (dl_cons de_str (dl_cons de_str (dl_cons de_str (dl_cons de_str dl_nil))))))))))) (dss_cons (ds_set (i := 5) nd rfl (by first | exact Or.inl rfl | exact Or.inr rfl) (de_ix c (dr_var (pv 4)) (dr_e (de_callH h__law_pick hr rfl tk (da_cons (dr_var (pv 0)) (da_cons (dr_e de_int) da_nil)) (by omega))))) (dss_cons (ds_set (i := 6) nd rfl (by first | exact Or.inl rfl | exact Or.inr rfl) (de_f (df_lst (dl_cons (de_var (pv 3)) (dl_cons (de_op op_add4 o_add (dr_e (de_op op_add4 o_add (dr_e (de_sl (dr_var (pv 2)) do_none (do_some (de_var (pv 7))))) (dr_e (de_sl (dr_var (pv 2)) (do_some (de_var (pv 7))) (do_some (de_op op_add4 o_add (dr_var (pv 7)) (dr_e de_int))))))) (dr_e (de_sl (dr_var (pv 2)) (do_some (de_var (pv 7))) do_none))) (dl_cons (de_op op_add4 o_add (dr_e (de_op op_add4 o_add (dr_e (de_sl (dr_var (pv 3)) do_none (do_some (de_var (pv 8))))) (dr_e (de_sl (dr_var (pv 2)) (do_some (de_var (pv 7))) (do_some (de_op op_add4 o_add (dr_var (pv 7)) (dr_e de_int))))))) (dr_e (de_sl (dr_var (pv 3)) (do_some (de_var (pv 8))) do_none))) dl_nil)))))) (dss_cons (ds_set (i := 6) nd rfl (by first | exact Or.inl rfl | exact Or.inr rfl) (de_f (df_op op_cat o_cat (dr_var (pv 6)) (dr_e (de_f (df_lst (dl_cons (de_f (df_op op_cat o_cat (dr_e (de_f (df_op op_cat o_cat (dr_e (de_sl (dr_var (pv 2)) do_none (do_some (de_var (pv 7))))) (dr_e (de_f (df_lst (dl_cons (de_var (pv 5)) dl_nil))))))) (dr_e (de_sl (dr_var (pv 2)) (do_some (de_var (pv 7))) do_none)))) (dl_cons (de_f (df_op op_cat o_cat (dr_var (pv 2)) (dr_e (de_f (df_lst (dl_cons (de_var (pv 5)) dl_nil)))))) (dl_cons (de_rev (dr_var (pv 2))) dl_nil))))))))) (dss_one (ds_ret (de_join de_str (de_ix c (dr_var (pv 6)) (dr_e (de_callH h__law_pick hr rfl tk (da_cons (dr_var (pv 0)) (da_cons (dr_e de_int) da_nil)) (by omega))))))))))))))
theorem has__law_row_amiss {P : Program} {w : World} {K : PySem.W.Frag} {mg : Str → Option Value} {base : Heap} {f : Addr} {fd : FuncData} (D : FnP K "_law_row_amiss" S__law_row_amiss f fd) (g : mg "_law_row_amiss" = some (.ref f)) (h__law_pick : Has P w K mg base 1 "_law_pick" [true, false] F__law_pick) (n_len : mg "len" = none) : Has P w K mg base 2 "_law_row_amiss" [true, false] F__law_row_amiss :=
  has_of D (fn__law_row_amiss D h__law_pick n_len) g (fun _ _ _ _ _ _ us hl => match us, hl with | [_, _], _ => rfl)
/-! are_words -/
abbrev N_are_words : List Str := ["x", "word"]
theorem sc_are_words : FnScope N_are_words ["x"] (defScope S_are_words) := ⟨rfl, rfl, rfl, by decide +kernel, rfl, by decide +kernel, by decide +kernel⟩
def m_are_words : SM := (sSeq (sIf (tOrM (tNotM (tOfE (eIsT .tuple (rVar 0)))) (tNotM (tOfE (eChain le2 le2 (rOf (eC (.int 1))) (rOf (eCallB lenD (aCons (rVar 0) aNil))) (rOf (eC G_MOST_WORDS)))))) (sRet (eC (.bl false))) sNil) (sRet (eCallB allD2 (aCons (rOf (eComp (iVal (eVar 0)) (gNm 1) tYesM (eOr (eCall [false] false F_is_kind (aCons (rVar 1) aNil)) (eAnd (eIsT .str (rVar 1)) (eOp2 inD (rVar 1) (rOf (eC G_WIDE))))) [1])) aNil))))
def F_are_words : List D → FRes := runF [false] 2 m_are_words
theorem fn_are_words {P : Program} {w : World} {K : PySem.W.Frag} {mg : Str → Option Value} {base : Heap} {f : Addr} {fd : FuncData} (D : FnP K "are_words" S_are_words f fd)  (h_is_kind : Has P w K mg base 2 "is_kind" [false] F_is_kind) (v_MOST_WORDS : Gv K mg "MOST_WORDS" G_MOST_WORDS) (v_WIDE : Gv K mg "WIDE" G_WIDE) (n_len : mg "len" = none) (n_isinstance : mg "isinstance" = none) (n_tuple : mg "tuple" = none) (n_str : mg "str" = none) (n_all : mg "all" = none) : FnOk P w K mg base (L2.CX P w) 3 f fd ["x"] (spF K mg [false] F_are_words) := by
  refine fn_defD (k := 2) D sc_are_words rfl fun cdv A outer s H E hr => ?_
  have c := cd_of (X := cxOf (L2.CX P w) P w K mg base N_are_words "are_words" (defScope S_are_words) f cdv A outer s H E) hr
  have tk := takes_of (X := cxOf (L2.CX P w) P w K mg base N_are_words "are_words" (defScope S_are_words) f cdv A outer s H E) (E := E) rfl rfl rfl rfl
  have nd := sc_are_words.nd
  exact (dss_cons (ds_if (dt_w (dw_or (dt_not (dt_e (de_isT .tuple (dr_var (pv 0)) rfl n_isinstance rfl n_tuple bt_tuple))) (dw_or1 (dt_not (dt_chain (op_le2 c) o_le2 (op_le2 c) o_le2 (dr_e de_int) (dr_e (de_callB call_lenA f_len rfl n_len bt_len (da_cons (dr_var (pv 0)) da_nil))) (dr_e (de_glob v_MOST_WORDS rfl))))))) (dss_one (ds_ret de_bl)) dss_nil) (dss_one (ds_ret (de_callB (cr_all c.calm) f_all rfl n_all bt_all (da_cons (dr_e (de_f (df_comp c nd (di_val (de_var (pv 0))) (blkOk_by (N := N_are_words) (sc := defScope S_are_words) (own := [("word", 1)]) (by decide +kernel)) (fun _ _ _ _ _ => (dg_name (i := 1) nd rfl (by first | exact Or.inl rfl | exact Or.inr rfl))) (fun _ _ _ _ _ => dts_nil) (fun _ _ _ _ _ => (de_or (de_callH h_is_kind hr rfl takes0 (da_cons (dr_var (pv 1)) da_nil) (by omega)) (de_one (de_and (de_isT .str (dr_var (pv 1)) rfl n_isinstance rfl n_str bt_str) (de_one (de_cmp (op_in c.blk) o_in (dr_var (pv 1)) (dr_e (de_glob v_WIDE rfl)) (by with_unfolding_all rfl)))))))))) da_nil)))))
theorem has_are_words {P : Program} {w : World} {K : PySem.W.Frag} {mg : Str → Option Value} {base : Heap} {f : Addr} {fd : FuncData} (D : FnP K "are_words" S_are_words f fd) (g : mg "are_words" = some (.ref f)) (h_is_kind : Has P w K mg base 2 "is_kind" [false] F_is_kind) (v_MOST_WORDS : Gv K mg "MOST_WORDS" G_MOST_WORDS) (v_WIDE : Gv K mg "WIDE" G_WIDE) (n_len : mg "len" = none) (n_isinstance : mg "isinstance" = none) (n_tuple : mg "tuple" = none) (n_str : mg "str" = none) (n_all : mg "all" = none) : Has P w K mg base 3 "are_words" [false] F_are_words :=
  has_of D (fn_are_words D h_is_kind v_MOST_WORDS v_WIDE n_len n_isinstance n_tuple n_str n_all) g (fun _ _ _ _ _ _ us hl => match us, hl with | [_], _ => rfl)
/-! are_days -/
abbrev N_are_days : List Str := ["x", "k", "day"]
theorem sc_are_days : FnScope N_are_days ["x"] (defScope S_are_days) := ⟨rfl, rfl, rfl, by decide +kernel, rfl, by decide +kernel, by decide +kernel⟩
def m_are_days : SM := (sSeq (sIf (tOrM (tNotM (tOfE (eIsT .tuple (rVar 0)))) (tOrM (tOfE (eOp2 eqO (rVar 0) (rOf (eTup lNil)))) (tNotM (tOfE (eCallB allD2 (aCons (rOf (eComp (iVal (eVar 0)) (gNm 2) tYesM (eCall [false, false, false] false F_is_between (aCons (rVar 2) (aCons (rOf (eC (.int 0))) (aCons (rOf (eC (.int 6))) aNil)))) [2])) aNil)))))) (sRet (eC (.bl false))) sNil) (sRet (eCallB allD2 (aCons (rOf (eComp (iRange1 (eOp2 subD (rOf (eCallB lenD (aCons (rVar 0) aNil))) (rOf (eC (.int 1))))) (gNm 1) tYesM (eOp2 lt2 (rOf (eOp2 ixD (rVar 0) (rVar 1))) (rOf (eOp2 ixD (rVar 0) (rOf (eOp2 addD (rVar 1) (rOf (eC (.int 1)))))))) [1])) aNil))))
def F_are_days : List D → FRes := runF [false] 3 m_are_days
theorem fn_are_days {P : Program} {w : World} {K : PySem.W.Frag} {mg : Str → Option Value} {base : Heap} {f : Addr} {fd : FuncData} (D : FnP K "are_days" S_are_days f fd)  (h_is_between : Has P w K mg base 2 "is_between" [false, false, false] F_is_between) (n_all : mg "all" = none) (n_isinstance : mg "isinstance" = none) (n_tuple : mg "tuple" = none) (n_range : mg "range" = none) (n_len : mg "len" = none) : FnOk P w K mg base (L2.CX P w) 3 f fd ["x"] (spF K mg [false] F_are_days) := by
  refine fn_defD (k := 2) D sc_are_days rfl fun cdv A outer s H E hr => ?_
  have c := cd_of (X := cxOf (L2.CX P w) P w K mg base N_are_days "are_days" (defScope S_are_days) f cdv A outer s H E) hr
  have tk := takes_of (X := cxOf (L2.CX P w) P w K mg base N_are_days "are_days" (defScope S_are_days) f cdv A outer s H E) (E := E) rfl rfl rfl rfl
  have nd := sc_are_days.nd
  exact (dss_cons (ds_if (dt_w (dw_or (dt_not (dt_e (de_isT .tuple (dr_var (pv 0)) rfl n_isinstance rfl n_tuple bt_tuple))) (dw_or (dt_cmp (op_eq2 c) o_eq (dr_var (pv 0)) (dr_e (de_tup dl_nil)) (by with_unfolding_all rfl)) (dw_or1 (dt_not (dt_e (de_callB (cr_all c.calm) f_all rfl n_all bt_all (da_cons (dr_e (de_f (df_comp c nd (di_val (de_var (pv 0))) (blkOk_by (N := N_are_days) (sc := defScope S_are_days) (own := [("day", 2)]) (by decide +kernel)) (fun _ _ _ _ _ => (dg_name (i := 2) nd rfl (by first | exact Or.inl rfl | exact Or.inr rfl))) (fun _ _ _ _ _ => dts_nil) (fun _ _ _ _ _ => (de_callH h_is_between hr rfl takes0 (da_cons (dr_var (pv 2)) (da_cons (dr_e de_int) (da_cons (dr_e de_int) da_nil))) (by omega)))))) da_nil)))))))) (dss_one (ds_ret de_bl)) dss_nil) (dss_one (ds_ret (de_callB (cr_all c.calm) f_all rfl n_all bt_all (da_cons (dr_e (de_f (df_comp c nd (di_range1 rfl n_range (de_op op_sub o_sub (dr_e (de_callB call_lenA f_len rfl n_len bt_len (da_cons (dr_var (pv 0)) da_nil))) (dr_e de_int))) (blkOk_by (N := N_are_days) (sc := defScope S_are_days) (own := [("k", 1)]) (by decide +kernel)) (fun _ _ _ _ _ => (dg_name (i := 1) nd rfl (by first | exact Or.inl rfl | exact Or.inr rfl))) (fun _ _ _ _ _ => dts_nil) (fun _ _ _ _ _ => (de_cmp (op_lt2 c.blk) o_lt2 (dr_e (de_ix c.blk (dr_var (pv 0)) (dr_var (pv 1)))) (dr_e (de_ix c.blk (dr_var (pv 0)) (dr_e (de_op op_add4 o_add (dr_var (pv 1)) (dr_e de_int))))) (by with_unfolding_all rfl)))))) da_nil)))))
theorem has_are_days {P : Program} {w : World} {K : PySem.W.Frag} {mg : Str → Option Value} {base : Heap} {f : Addr} {fd : FuncData} (D : FnP K "are_days" S_are_days f fd) (g : mg "are_days" = some (.ref f)) (h_is_between : Has P w K mg base 2 "is_between" [false, false, false] F_is_between) (n_all : mg "all" = none) (n_isinstance : mg "isinstance" = none) (n_tuple : mg "tuple" = none) (n_range : mg "range" = none) (n_len : mg "len" = none) : Has P w K mg base 3 "are_days" [false] F_are_days :=
  has_of D (fn_are_days D h_is_between n_all n_isinstance n_tuple n_range n_len) g (fun _ _ _ _ _ _ us hl => match us, hl with | [_], _ => rfl)
/-! are_hours -/
abbrev N_are_hours : List Str := ["start", "end"]
theorem sc_are_hours : FnScope N_are_hours ["start", "end"] (defScope S_are_hours) := ⟨rfl, rfl, rfl, by decide +kernel, rfl, by decide +kernel, by decide +kernel⟩
def m_are_hours : SM := (sRet (eAnd (eCall [false, false, false] false F_is_between (aCons (rVar 0) (aCons (rOf (eC (.int 0))) (aCons (rOf (eC (.int 23))) aNil)))) (eAnd (eCall [false, false, false] false F_is_between (aCons (rVar 1) (aCons (rOf (eC (.int 1))) (aCons (rOf (eC (.int 24))) aNil)))) (eOp2 lt2 (rVar 0) (rVar 1)))))
def F_are_hours : List D → FRes := runF [false, false] 2 m_are_hours
theorem fn_are_hours {P : Program} {w : World} {K : PySem.W.Frag} {mg : Str → Option Value} {base : Heap} {f : Addr} {fd : FuncData} (D : FnP K "are_hours" S_are_hours f fd)  (h_is_between : Has P w K mg base 2 "is_between" [false, false, false] F_is_between)  : FnOk P w K mg base (L2.CX P w) 3 f fd ["start", "end"] (spF K mg [false, false] F_are_hours) := by
  refine fn_defD (k := 2) D sc_are_hours rfl fun cdv A outer s H E hr => ?_
  have c := cd_of (X := cxOf (L2.CX P w) P w K mg base N_are_hours "are_hours" (defScope S_are_hours) f cdv A outer s H E) hr
  have tk := takes_of (X := cxOf (L2.CX P w) P w K mg base N_are_hours "are_hours" (defScope S_are_hours) f cdv A outer s H E) (E := E) rfl rfl rfl rfl
  have nd := sc_are_hours.nd
  exact (dss_one (ds_ret (de_and (de_callH h_is_between hr rfl tk (da_cons (dr_var (pv 0)) (da_cons (dr_e de_int) (da_cons (dr_e de_int) da_nil))) (by omega)) (de_and (de_callH h_is_between hr rfl tk (da_cons (dr_var (pv 1)) (da_cons (dr_e de_int) (da_cons (dr_e de_int) da_nil))) (by omega)) (de_one (de_cmp (op_lt2 c) o_lt2 (dr_var (pv 0)) (dr_var (pv 1)) (by with_unfolding_all rfl)))))))
theorem has_are_hours {P : Program} {w : World} {K : PySem.W.Frag} {mg : Str → Option Value} {base : Heap} {f : Addr} {fd : FuncData} (D : FnP K "are_hours" S_are_hours f fd) (g : mg "are_hours" = some (.ref f)) (h_is_between : Has P w K mg base 2 "is_between" [false, false, false] F_is_between)  : Has P w K mg base 3 "are_hours" [false, false] F_are_hours :=
  has_of D (fn_are_hours D h_is_between) g (fun _ _ _ _ _ _ us hl => match us, hl with | [_, _], _ => rfl)
/-! _law_kind -/
abbrev N__law_kind : List Str := ["_law_purse_here", "_law_name"]
theorem sc__law_kind : FnScope N__law_kind ["_law_purse_here"] (defScope S__law_kind) := ⟨rfl, rfl, rfl, by decide +kernel, rfl, by decide +kernel, by decide +kernel⟩
def m__law_kind : SM := (sSeq (sSet 1 (eCall [true] false F__law_any_name (aCons (rVar 0) aNil))) (sRet (eOp2 ixD (rOf (eLst (lCons (eVar 1) (lCons (eOp2 addD (rOf (eSl (rVar 1) oNo (oSome (eC (.int 7))))) (rOf (eC (.str "s")))) lNil)))) (rOf (eCallB intD (aCons (rOf (eOp2 inD (rVar 1) (rOf (eTup (lCons (eC (.str "any")) (lCons (eC (.str "fresh")) lNil)))))) aNil))))))
def F__law_kind : List D → FRes := runF [true] 2 m__law_kind
theorem fn__law_kind {P : Program} {w : World} {K : PySem.W.Frag} {mg : Str → Option Value} {base : Heap} {f : Addr} {fd : FuncData} (D : FnP K "_law_kind" S__law_kind f fd)  (h__law_any_name : Has P w K mg base 2 "_law_any_name" [true] F__law_any_name) (n_int : mg "int" = none) : FnOk P w K mg base (L2.CX P w) 3 f fd ["_law_purse_here"] (spF K mg [true] F__law_kind) := by
  refine fn_defD (k := 2) D sc__law_kind rfl fun cdv A outer s H E hr => ?_
  have c := cd_of (X := cxOf (L2.CX P w) P w K mg base N__law_kind "_law_kind" (defScope S__law_kind) f cdv A outer s H E) hr
  have tk := takes_of (X := cxOf (L2.CX P w) P w K mg base N__law_kind "_law_kind" (defScope S__law_kind) f cdv A outer s H E) (E := E) rfl rfl rfl rfl
  have nd := sc__law_kind.nd
  exact (dss_cons (ds_set (i := 1) nd rfl (by first | exact Or.inl rfl | exact Or.inr rfl) (de_callH h__law_any_name hr rfl tk (da_cons (dr_var (pv 0)) da_nil) (by omega))) (dss_one (ds_ret (de_ix c (dr_e (de_f (df_lst (dl_cons (de_var (pv 1)) (dl_cons (de_op op_add4 o_add (dr_e (de_sl (dr_var (pv 1)) do_none (do_some de_int))) (dr_e de_str)) dl_nil))))) (dr_e (de_callT call_int1 f_int rfl n_int bt_int (da_cons (dr_e (de_cmp (op_in c) o_in (dr_var (pv 1)) (dr_e (de_tup (dl_cons de_str (dl_cons de_str dl_nil)))) (by with_unfolding_all rfl))) da_nil)))))))
theorem has__law_kind {P : Program} {w : World} {K : PySem.W.Frag} {mg : Str → Option Value} {base : Heap} {f : Addr} {fd : FuncData} (D : FnP K "_law_kind" S__law_kind f fd) (g : mg "_law_kind" = some (.ref f)) (h__law_any_name : Has P w K mg base 2 "_law_any_name" [true] F__law_any_name) (n_int : mg "int" = none) : Has P w K mg base 3 "_law_kind" [true] F__law_kind :=
  has_of D (fn__law_kind D h__law_any_name n_int) g (fun _ _ _ _ _ _ us hl => match us, hl with | [_], _ => rfl)
/-! _law_parts_in -/
abbrev N__law_parts_in : List Str := ["_law_head", "_law_words", "_law_many", "_law_found"]
theorem sc__law_parts_in : FnScope N__law_parts_in ["_law_head", "_law_words"] (defScope S__law_parts_in) := ⟨rfl, rfl, rfl, by decide +kernel, rfl, by decide +kernel, by decide +kernel⟩
def m__law_parts_in : SM := (sSeq (sSet 2 (eCallB lenD (aCons (rVar 1) aNil))) (sSeq (sIf (tAndM (tOfE (eOp2 inD (rVar 0) (rOf (eTup (lCons (eC (.str "song")) (lCons (eC (.str "singer")) (lCons (eC (.str "fresh")) lNil))))))) (tOfE (eOp2 eqO (rVar 2) (rOf (eC (.int 1)))))) (sRet (eTup (lCons (eCall [false, false, false] false F__law_figures (aCons (rOf (eOp2 ixD (rVar 1) (rOf (eC (.int 0))))) (aCons (rOf (eC (.int 0))) (aCons (rOf (eC (.int 99999))) aNil)))) lNil))) sNil) (sSeq (sIf (tAndM (tOfE (eOp2 eqO (rVar 0) (rOf (eC (.str "behind"))))) (tOfE (eOp2 eqO (rVar 2) (rOf (eC (.int 2)))))) (sRet (eTup (lCons (eCall [false] false F__law_kind_in (aCons (rOf (eOp2 ixD (rVar 1) (rOf (eC (.int 0))))) aNil)) (lCons (eCall [false] false F__law_kind_in (aCons (rOf (eOp2 ixD (rVar 1) (rOf (eC (.int 1))))) aNil)) lNil)))) sNil) (sSeq (sIf (tAndM (tOfE (eOp2 eqO (rVar 0) (rOf (eC (.str "most"))))) (tOfE (eOp2 eqO (rVar 2) (rOf (eC (.int 3)))))) (sRet (eTup (lCons (eCall [false] false F__law_kind_in (aCons (rOf (eOp2 ixD (rVar 1) (rOf (eC (.int 0))))) aNil)) (lCons (eCall [false, false, false] false F__law_figures (aCons (rOf (eOp2 ixD (rVar 1) (rOf (eC (.int 1))))) (aCons (rOf (eC (.int 1))) (aCons (rOf (eC (.int 99))) aNil)))) (lCons (eCall [false, false, false] false F__law_figures (aCons (rOf (eOp2 ixD (rVar 1) (rOf (eC (.int 2))))) (aCons (rOf (eC (.int 0))) (aCons (rOf (eC (.int 99999))) aNil)))) lNil))))) sNil) (sSeq (sIf (tOfE (eOp2 eqO (rVar 0) (rOf (eC (.str "wheel"))))) (sRet (eTup (lCons (eCall [false] false F__law_words_in (aCons (rVar 1) aNil)) lNil))) sNil) (sSeq (sIf (tOrM (tOfE (eOp2 neO (rVar 0) (rOf (eC (.str "never"))))) (tOfE (eOp2 neO (rVar 2) (rOf (eC (.int 4)))))) (sRet (eTup (lCons (eC .non) lNil))) sNil) (sSeq (sSet 3 (eTup (lCons (eCall [false] false F__law_kind_in (aCons (rOf (eOp2 ixD (rVar 1) (rOf (eC (.int 0))))) aNil)) (lCons (eCall [false] false F__law_days_in (aCons (rOf (eOp2 ixD (rVar 1) (rOf (eC (.int 1))))) aNil)) (lCons (eCall [false, false, false] false F__law_figures (aCons (rOf (eOp2 ixD (rVar 1) (rOf (eC (.int 2))))) (aCons (rOf (eC (.int 0))) (aCons (rOf (eC (.int 23))) aNil)))) lNil))))) (sSeq (sSet 3 (eOp2 addD (rVar 3) (rOf (eTup (lCons (eCall [false, false, false] false F__law_figures (aCons (rOf (eOp2 ixD (rVar 1) (rOf (eC (.int 3))))) (aCons (rOf (eC (.int 1))) (aCons (rOf (eC (.int 24))) aNil)))) lNil))))) (sRet (eOp2 ixD (rOf (eLst (lCons (eVar 3) (lCons (eTup (lCons (eC .non) lNil)) lNil)))) (rOf (eCallB intD (aCons (rOf (eOr (eOp2 inD (rOf (eC .non)) (rVar 3)) (eOp2 ge2 (rOf (eOp2 ixD (rVar 3) (rOf (eC (.int 2))))) (rOf (eOp2 ixD (rVar 3) (rOf (eC (.int 3)))))))) aNil)))))))))))))
def F__law_parts_in : List D → FRes := runF [false, false] 4 m__law_parts_in
theorem fn__law_parts_in {P : Program} {w : World} {K : PySem.W.Frag} {mg : Str → Option Value} {base : Heap} {f : Addr} {fd : FuncData} (D : FnP K "_law_parts_in" S__law_parts_in f fd)  (h__law_figures : Has P w K mg base 1 "_law_figures" [false, false, false] F__law_figures) (h__law_kind_in : Has P w K mg base 1 "_law_kind_in" [false] F__law_kind_in) (h__law_words_in : Has P w K mg base 2 "_law_words_in" [false] F__law_words_in) (h__law_days_in : Has P w K mg base 2 "_law_days_in" [false] F__law_days_in) (n_len : mg "len" = none) (n_int : mg "int" = none) : FnOk P w K mg base (L2.CX P w) 3 f fd ["_law_head", "_law_words"] (spF K mg [false, false] F__law_parts_in) := by
  refine fn_defD (k := 2) D sc__law_parts_in rfl fun cdv A outer s H E hr => ?_
  have c := cd_of (X := cxOf (L2.CX P w) P w K mg base N__law_parts_in "_law_parts_in" (defScope S__law_parts_in) f cdv A outer s H E) hr
  have tk := takes_of (X := cxOf (L2.CX P w) P w K mg base N__law_parts_in "_law_parts_in" (defScope S__law_parts_in) f cdv A outer s H E) (E := E) rfl rfl rfl rfl
  have nd := sc__law_parts_in.nd
  exact (dss_cons (ds_set (i := 2) nd rfl (by first | exact Or.inl rfl | exact Or.inr rfl) (de_callB call_lenA f_len rfl n_len bt_len (da_cons (dr_var (pv 1)) da_nil))) (dss_cons (ds_if (dt_w (dw_and (dt_cmp (op_in c) o_in (dr_var (pv 0)) (dr_e (de_tup (dl_cons de_str (dl_cons de_str (dl_cons de_str dl_nil))))) (by with_unfolding_all rfl)) (dw_and1 (dt_cmp (op_eq2 c) o_eq (dr_var (pv 2)) (dr_e de_int) (by with_unfolding_all rfl))))) (dss_one (ds_ret (de_tup (dl_cons (de_callH h__law_figures hr rfl tk (da_cons (dr_e (de_ix c (dr_var (pv 1)) (dr_e de_int))) (da_cons (dr_e de_int) (da_cons (dr_e de_int) da_nil))) (by omega)) dl_nil)))) dss_nil) (dss_cons (ds_if (dt_w (dw_and (dt_cmp (op_eq2 c) o_eq (dr_var (pv 0)) (dr_e de_str) (by with_unfolding_all rfl)) (dw_and1 (dt_cmp (op_eq2 c) o_eq (dr_var (pv 2)) (dr_e de_int) (by with_unfolding_all rfl))))) (dss_one (ds_ret (de_tup (dl_cons (de_callH h__law_kind_in hr rfl tk (da_cons (dr_e (de_ix c (dr_var (pv 1)) (dr_e de_int))) da_nil) (by omega)) (dl_cons (de_callH h__law_kind_in hr rfl tk (da_cons (dr_e (de_ix c (dr_var (pv 1)) (dr_e de_int))) da_nil) (by omega)) dl_nil))))) dss_nil) (dss_cons (ds_if (dt_w (dw_and (dt_cmp (op_eq2 c) o_eq (dr_var (pv 0)) (dr_e de_str) (by with_unfolding_all rfl)) (dw_and1 (dt_cmp (op_eq2 c) o_eq (dr_var (pv 2)) (dr_e de_int) (by with_unfolding_all rfl))))) (dss_one (ds_ret (de_tup (dl_cons (de_callH h__law_kind_in hr rfl tk (da_cons (dr_e (de_ix c (dr_var (pv 1)) (dr_e de_int))) da_nil) (by omega)) (dl_cons (de_callH h__law_figures hr rfl tk (da_cons (dr_e (de_ix c (dr_var (pv 1)) (dr_e de_int))) (da_cons (dr_e de_int) (da_cons (dr_e de_int) da_nil))) (by omega)) (dl_cons (de_callH h__law_figures hr rfl tk (da_cons (dr_e (de_ix c (dr_var (pv 1)) (dr_e de_int))) (da_cons (dr_e de_int) (da_cons (dr_e de_int) da_nil))) (by omega)) dl_nil)))))) dss_nil) (dss_cons (ds_if (dt_cmp (op_eq2 c) o_eq (dr_var (pv 0)) (dr_e de_str) (by with_unfolding_all rfl)) (dss_one (ds_ret (de_tup (dl_cons (de_callH h__law_words_in hr rfl tk (da_cons (dr_var (pv 1)) da_nil) (by omega)) dl_nil)))) dss_nil) (dss_cons (ds_if (dt_w (dw_or (dt_cmp (op_ne2 c) o_ne (dr_var (pv 0)) (dr_e de_str) (by with_unfolding_all rfl)) (dw_or1 (dt_cmp (op_ne2 c) o_ne (dr_var (pv 2)) (dr_e de_int) (by with_unfolding_all rfl))))) (dss_one (ds_ret (de_tup (dl_cons de_non dl_nil)))) dss_nil) (dss_cons (ds_set (i := 3) nd rfl (by first | exact Or.inl rfl | exact Or.inr rfl) (de_tup (dl_cons (de_callH h__law_kind_in hr rfl tk (da_cons (dr_e (de_ix c (dr_var (pv 1)) (dr_e de_int))) da_nil) (by omega)) (dl_cons (de_callH h__law_days_in hr rfl tk (da_cons (dr_e (de_ix c (dr_var (pv 1)) (dr_e de_int))) da_nil) (by omega)) (dl_cons (de_callH h__law_figures hr rfl tk (da_cons (dr_e (de_ix c (dr_var (pv 1)) (dr_e de_int))) (da_cons (dr_e de_int) (da_cons (dr_e de_int) da_nil))) (by omega)) dl_nil))))) (dss_cons (ds_set (i := 3) nd rfl (by first | exact Or.inl rfl | exact Or.inr rfl) (de_op op_add4 o_add (dr_var (pv 3)) (dr_e (de_tup (dl_cons (de_callH h__law_figures hr rfl tk (da_cons (dr_e (de_ix c (dr_var (pv 1)) (dr_e de_int))) (da_cons (dr_e de_int) (da_cons (dr_e de_int) da_nil))) (by omega)) dl_nil))))) (dss_one (ds_ret (de_ix c (dr_e (de_f (df_lst (dl_cons (de_var (pv 3)) (dl_cons (de_tup (dl_cons de_non dl_nil)) dl_nil))))) (dr_e (de_callT call_int1 f_int rfl n_int bt_int (da_cons (dr_e (de_or (de_cmp (op_in c) o_in (dr_e de_non) (dr_var (pv 3)) (by with_unfolding_all rfl)) (de_one (de_cmp (op_ge2 c) o_ge2 (dr_e (de_ix c (dr_var (pv 3)) (dr_e de_int))) (dr_e (de_ix c (dr_var (pv 3)) (dr_e de_int))) (by with_unfolding_all rfl))))) da_nil))))))))))))))
theorem has__law_parts_in {P : Program} {w : World} {K : PySem.W.Frag} {mg : Str → Option Value} {base : Heap} {f : Addr} {fd : FuncData} (D : FnP K "_law_parts_in" S__law_parts_in f fd) (g : mg "_law_parts_in" = some (.ref f)) (h__law_figures : Has P w K mg base 1 "_law_figures" [false, false, false] F__law_figures) (h__law_kind_in : Has P w K mg base 1 "_law_kind_in" [false] F__law_kind_in) (h__law_words_in : Has P w K mg base 2 "_law_words_in" [false] F__law_words_in) (h__law_days_in : Has P w K mg base 2 "_law_days_in" [false] F__law_days_in) (n_len : mg "len" = none) (n_int : mg "int" = none) : Has P w K mg base 3 "_law_parts_in" [false, false] F__law_parts_in :=
  has_of D (fn__law_parts_in D h__law_figures h__law_kind_in h__law_words_in h__law_days_in n_len n_int) g (fun _ _ _ _ _ _ us hl => match us, hl with | [_, _], _ => rfl)
/-! _law_amiss -/
abbrev N__law_amiss : List Str := ["_law_purse_here", "_law_text", "_law_way"]
theorem sc__law_amiss : FnScope N__law_amiss ["_law_purse_here", "_law_text"] (defScope S__law_amiss) := ⟨rfl, rfl, rfl, by decide +kernel, rfl, by decide +kernel, by decide +kernel⟩
def m__law_amiss : SM := (sSeq (sSet 2 (eCall [true, false] false F__law_pick (aCons (rVar 0) (aCons (rOf (eC (.int 4))) aNil)))) (sSeq (sIf (tOfE (eOp2 lt2 (rVar 2) (rOf (eC (.int 2))))) (sRet (eCall [true, false] false F__law_sign_amiss (aCons (rVar 0) (aCons (rVar 1) aNil)))) sNil) (sSeq (sIf (tOfE (eOp2 eqO (rVar 2) (rOf (eC (.int 2))))) (sRet (eCall [true, false] false F__law_word_amiss (aCons (rVar 0) (aCons (rVar 1) aNil)))) sNil) (sRet (eCall [true, false] false F__law_row_amiss (aCons (rVar 0) (aCons (rVar 1) aNil)))))))
def F__law_amiss : List D → FRes := runF [true, false] 3 m__law_amiss
theorem fn__law_amiss {P : Program} {w : World} {K : PySem.W.Frag} {mg : Str → Option Value} {base : Heap} {f : Addr} {fd : FuncData} (D : FnP K "_law_amiss" S__law_amiss f fd)  (h__law_pick : Has P w K mg base 1 "_law_pick" [true, false] F__law_pick) (h__law_sign_amiss : Has P w K mg base 2 "_law_sign_amiss" [true, false] F__law_sign_amiss) (h__law_word_amiss : Has P w K mg base 2 "_law_word_amiss" [true, false] F__law_word_amiss) (h__law_row_amiss : Has P w K mg base 2 "_law_row_amiss" [true, false] F__law_row_amiss)  : FnOk P w K mg base (L2.CX P w) 3 f fd ["_law_purse_here", "_law_text"] (spF K mg [true, false] F__law_amiss) := by
  refine fn_defD (k := 2) D sc__law_amiss rfl fun cdv A outer s H E hr => ?_
  have c := cd_of (X := cxOf (L2.CX P w) P w K mg base N__law_amiss "_law_amiss" (defScope S__law_amiss) f cdv A outer s H E) hr
  have tk := takes_of (X := cxOf (L2.CX P w) P w K mg base N__law_amiss "_law_amiss" (defScope S__law_amiss) f cdv A outer s H E) (E := E) rfl rfl rfl rfl
  have nd := sc__law_amiss.nd
  exact (dss_cons (ds_set (i := 2) nd rfl (by first | exact Or.inl rfl | exact Or.inr rfl) (de_callH h__law_pick hr rfl tk (da_cons (dr_var (pv 0)) (da_cons (dr_e de_int) da_nil)) (by omega))) (dss_cons (ds_if (dt_cmp (op_lt2 c) o_lt2 (dr_var (pv 2)) (dr_e de_int) (by with_unfolding_all rfl)) (dss_one (ds_ret (de_callH h__law_sign_amiss hr rfl tk (da_cons (dr_var (pv 0)) (da_cons (dr_var (pv 1)) da_nil)) (by omega)))) dss_nil) (dss_cons (ds_if (dt_cmp (op_eq2 c) o_eq (dr_var (pv 2)) (dr_e de_int) (by with_unfolding_all rfl)) (dss_one (ds_ret (de_callH h__law_word_amiss hr rfl tk (da_cons (dr_var (pv 0)) (da_cons (dr_var (pv 1)) da_nil)) (by omega)))) dss_nil) (dss_one (ds_ret (de_callH h__law_row_amiss hr rfl tk (da_cons (dr_var (pv 0)) (da_cons (dr_var (pv 1)) da_nil)) (by omega)))))))
theorem has__law_amiss {P : Program} {w : World} {K : PySem.W.Frag} {mg : Str → Option Value} {base : Heap} {f : Addr} {fd : FuncData} (D : FnP K "_law_amiss" S__law_amiss f fd) (g : mg "_law_amiss" = some (.ref f)) (h__law_pick : Has P w K mg base 1 "_law_pick" [true, false] F__law_pick) (h__law_sign_amiss : Has P w K mg base 2 "_law_sign_amiss" [true, false] F__law_sign_amiss) (h__law_word_amiss : Has P w K mg base 2 "_law_word_amiss" [true, false] F__law_word_amiss) (h__law_row_amiss : Has P w K mg base 2 "_law_row_amiss" [true, false] F__law_row_amiss)  : Has P w K mg base 3 "_law_amiss" [true, false] F__law_amiss :=
  has_of D (fn__law_amiss D h__law_pick h__law_sign_amiss h__law_word_amiss h__law_row_amiss) g (fun _ _ _ _ _ _ us hl => match us, hl with | [_, _], _ => rfl)
/-! is_rule -/
abbrev N_is_rule : List Str := ["x", "word", "many"]
theorem sc_is_rule : FnScope N_is_rule ["x"] (defScope S_is_rule) := ⟨rfl, rfl, rfl, by decide +kernel, rfl, by decide +kernel, by decide +kernel⟩
def m_is_rule : SM := (sSeq (sIf (tOrM (tNotM (tOfE (eIsT .tuple (rVar 0)))) (tOrM (tOfE (eOp2 lt2 (rOf (eCallB lenD (aCons (rVar 0) aNil))) (rOf (eC (.int 2))))) (tNotM (tOfE (eIsT .str (rOf (eOp2 ixD (rVar 0) (rOf (eC (.int 0)))))))))) (sRet (eC (.bl false))) sNil) (sSeq (sPar 1 2 (lCons (eOp2 ixD (rVar 0) (rOf (eC (.int 0)))) (lCons (eCallB lenD (aCons (rVar 0) aNil)) lNil))) (sSeq (sIf (tOfE (eOp2 inD (rVar 1) (rOf (eTup (lCons (eC (.str "song")) (lCons (eC (.str "singer")) (lCons (eC (.str "fresh")) lNil))))))) (sRet (eAnd (eOp2 eqO (rVar 2) (rOf (eC (.int 2)))) (eCall [false, false, false] false F_is_between (aCons (rOf (eOp2 ixD (rVar 0) (rOf (eC (.int 1))))) (aCons (rOf (eC (.int 0))) (aCons (rOf (eC G_MOST_SPAN)) aNil)))))) sNil) (sSeq (sIf (tOfE (eOp2 eqO (rVar 1) (rOf (eC (.str "behind"))))) (sRet (eAnd (eOp2 eqO (rVar 2) (rOf (eC (.int 3)))) (eAnd (eCall [false] false F_is_kind (aCons (rOf (eOp2 ixD (rVar 0) (rOf (eC (.int 1))))) aNil)) (eCall [false] false F_is_kind (aCons (rOf (eOp2 ixD (rVar 0) (rOf (eC (.int 2))))) aNil))))) sNil) (sSeq (sIf (tOfE (eOp2 eqO (rVar 1) (rOf (eC (.str "never"))))) (sRet (eAnd (eOp2 eqO (rVar 2) (rOf (eC (.int 5)))) (eAnd (eCall [false] false F_is_kind (aCons (rOf (eOp2 ixD (rVar 0) (rOf (eC (.int 1))))) aNil)) (eAnd (eCall [false] false F_are_days (aCons (rOf (eOp2 ixD (rVar 0) (rOf (eC (.int 2))))) aNil)) (eCall [false, false] false F_are_hours (aCons (rOf (eOp2 ixD (rVar 0) (rOf (eC (.int 3))))) (aCons (rOf (eOp2 ixD (rVar 0) (rOf (eC (.int 4))))) aNil))))))) sNil) (sSeq (sIf (tOfE (eOp2 eqO (rVar 1) (rOf (eC (.str "most"))))) (sRet (eAnd (eOp2 eqO (rVar 2) (rOf (eC (.int 4)))) (eAnd (eCall [false] false F_is_kind (aCons (rOf (eOp2 ixD (rVar 0) (rOf (eC (.int 1))))) aNil)) (eAnd (eCall [false, false, false] false F_is_between (aCons (rOf (eOp2 ixD (rVar 0) (rOf (eC (.int 2))))) (aCons (rOf (eC (.int 1))) (aCons (rOf (eC G_MOST_MANY)) aNil)))) (eCall [false, false, false] false F_is_between (aCons (rOf (eOp2 ixD (rVar 0) (rOf (eC (.int 3))))) (aCons (rOf (eC (.int 0))) (aCons (rOf (eC G_MOST_SPAN)) aNil)))))))) sNil) (sRet (eAnd (eOp2 eqO (rVar 1) (rOf (eC (.str "wheel")))) (eAnd (eOp2 eqO (rVar 2) (rOf (eC (.int 2)))) (eCall [false] false F_are_words (aCons (rOf (eOp2 ixD (rVar 0) (rOf (eC (.int 1))))) aNil)))))))))))
def F_is_rule : List D → FRes := runF [false] 3 m_is_rule
theorem fn_is_rule {P : Program} {w : World} {K : PySem.W.Frag} {mg : Str → Option Value} {base : Heap} {f : Addr} {fd : FuncData} (D : FnP K "is_rule" S_is_rule f fd)  (h_is_between : Has P w K mg base 2 "is_between" [false, false, false] F_is_between) (h_is_kind : Has P w K mg base 2 "is_kind" [false] F_is_kind) (h_are_hours : Has P w K mg base 3 "are_hours" [false, false] F_are_hours) (h_are_days : Has P w K mg base 3 "are_days" [false] F_are_days) (h_are_words : Has P w K mg base 3 "are_words" [false] F_are_words) (v_MOST_SPAN : Gv K mg "MOST_SPAN" G_MOST_SPAN) (v_MOST_MANY : Gv K mg "MOST_MANY" G_MOST_MANY) (n_isinstance : mg "isinstance" = none) (n_str : mg "str" = none) (n_len : mg "len" = none) (n_tuple : mg "tuple" = none) : FnOk P w K mg base (L2.CX P w) 4 f fd ["x"] (spF K mg [false] F_is_rule) := by
  refine fn_defD (k := 3) D sc_is_rule rfl fun cdv A outer s H E hr => ?_
  have c := cd_of (X := cxOf (L2.CX P w) P w K mg base N_is_rule "is_rule" (defScope S_is_rule) f cdv A outer s H E) hr
  have tk := takes_of (X := cxOf (L2.CX P w) P w K mg base N_is_rule "is_rule" (defScope S_is_rule) f cdv A outer s H E) (E := E) rfl rfl rfl rfl
  have nd := sc_is_rule.nd
  exact (dss_cons (ds_if (dt_w (dw_or (dt_not (dt_e (de_isT .tuple (dr_var (pv 0)) rfl n_isinstance rfl n_tuple bt_tuple))) (dw_or (dt_cmp (op_lt2 c) o_lt2 (dr_e (de_callB call_lenA f_len rfl n_len bt_len (da_cons (dr_var (pv 0)) da_nil))) (dr_e de_int) (by with_unfolding_all rfl)) (dw_or1 (dt_not (dt_e (de_isT .str (dr_e (de_ix c (dr_var (pv 0)) (dr_e de_int))) rfl n_isinstance rfl n_str bt_str))))))) (dss_one (ds_ret de_bl)) dss_nil) (dss_cons (ds_par (i := 1) (j := 2) c nd rfl rfl (by decide) rfl rfl (dl_cons (de_ix c (dr_var (pv 0)) (dr_e de_int)) (dl_cons (de_callB call_lenA f_len rfl n_len bt_len (da_cons (dr_var (pv 0)) da_nil)) dl_nil)) (by rfl)) (dss_cons (ds_if (dt_cmp (op_in c) o_in (dr_var (pv 1)) (dr_e (de_tup (dl_cons de_str (dl_cons de_str (dl_cons de_str dl_nil))))) (by with_unfolding_all rfl)) (dss_one (ds_ret (de_and (de_cmp (op_eq2 c) o_eq (dr_var (pv 2)) (dr_e de_int) (by with_unfolding_all rfl)) (de_one (de_callH h_is_between hr rfl tk (da_cons (dr_e (de_ix c (dr_var (pv 0)) (dr_e de_int))) (da_cons (dr_e de_int) (da_cons (dr_e (de_glob v_MOST_SPAN rfl)) da_nil))) (by omega)))))) dss_nil) (dss_cons (ds_if (dt_cmp (op_eq2 c) o_eq (dr_var (pv 1)) (dr_e de_str) (by with_unfolding_all rfl)) (dss_one (ds_ret (de_and (de_cmp (op_eq2 c) o_eq (dr_var (pv 2)) (dr_e de_int) (by with_unfolding_all rfl)) (de_and (de_callH h_is_kind hr rfl tk (da_cons (dr_e (de_ix c (dr_var (pv 0)) (dr_e de_int))) da_nil) (by omega)) (de_one (de_callH h_is_kind hr rfl tk (da_cons (dr_e (de_ix c (dr_var (pv 0)) (dr_e de_int))) da_nil) (by omega))))))) dss_nil) (dss_cons (ds_if (dt_cmp (op_eq2 c) o_eq (dr_var (pv 1)) (dr_e de_str) (by with_unfolding_all rfl)) (dss_one (ds_ret (de_and (de_cmp (op_eq2 c) o_eq (dr_var (pv 2)) (dr_e de_int) (by with_unfolding_all rfl)) (de_and (de_callH h_is_kind hr rfl tk (da_cons (dr_e (de_ix c (dr_var (pv 0)) (dr_e de_int))) da_nil) (by omega)) (de_and (de_callH h_are_days hr rfl tk (da_cons (dr_e (de_ix c (dr_var (pv 0)) (dr_e de_int))) da_nil) (by omega)) (de_one (de_callH h_are_hours hr rfl tk (da_cons (dr_e (de_ix c (dr_var (pv 0)) (dr_e de_int))) (da_cons (dr_e (de_ix c (dr_var (pv 0)) (dr_e de_int))) da_nil)) (by omega)))))))) dss_nil) (dss_cons (ds_if (dt_cmp (op_eq2 c) o_eq (dr_var (pv 1)) (dr_e de_str) (by with_unfolding_all rfl)) (dss_one (ds_ret (de_and (de_cmp (op_eq2 c) o_eq (dr_var (pv 2)) (dr_e de_int) (by with_unfolding_all rfl)) (de_and (de_callH h_is_kind hr rfl tk (da_cons (dr_e (de_ix c (dr_var (pv 0)) (dr_e de_int))) da_nil) (by omega)) (de_and (de_callH h_is_between hr rfl tk (da_cons (dr_e (de_ix c (dr_var (pv 0)) (dr_e de_int))) (da_cons (dr_e de_int) (da_cons (dr_e (de_glob v_MOST_MANY rfl)) da_nil))) (by omega)) (de_one (de_callH h_is_between hr rfl tk (da_cons (dr_e (de_ix c (dr_var (pv 0)) (dr_e de_int))) (da_cons (dr_e de_int) (da_cons (dr_e (de_glob v_MOST_SPAN rfl)) da_nil))) (by omega)))))))) dss_nil) (dss_one (ds_ret (de_and (de_cmp (op_eq2 c) o_eq (dr_var (pv 1)) (dr_e de_str) (by with_unfolding_all rfl)) (de_and (de_cmp (op_eq2 c) o_eq (dr_var (pv 2)) (dr_e de_int) (by with_unfolding_all rfl)) (de_one (de_callH h_are_words hr rfl tk (da_cons (dr_e (de_ix c (dr_var (pv 0)) (dr_e de_int))) da_nil) (by omega)))))))))))))
theorem has_is_rule {P : Program} {w : World} {K : PySem.W.Frag} {mg : Str → Option Value} {base : Heap} {f : Addr} {fd : FuncData} (D : FnP K "is_rule" S_is_rule f fd) (g : mg "is_rule" = some (.ref f)) (h_is_between : Has P w K mg base 2 "is_between" [false, false, false] F_is_between) (h_is_kind : Has P w K mg base 2 "is_kind" [false] F_is_kind) (h_are_hours : Has P w K mg base 3 "are_hours" [false, false] F_are_hours) (h_are_days : Has P w K mg base 3 "are_days" [false] F_are_days) (h_are_words : Has P w K mg base 3 "are_words" [false] F_are_words) (v_MOST_SPAN : Gv K mg "MOST_SPAN" G_MOST_SPAN) (v_MOST_MANY : Gv K mg "MOST_MANY" G_MOST_MANY) (n_isinstance : mg "isinstance" = none) (n_str : mg "str" = none) (n_len : mg "len" = none) (n_tuple : mg "tuple" = none) : Has P w K mg base 4 "is_rule" [false] F_is_rule :=
  has_of D (fn_is_rule D h_is_between h_is_kind h_are_hours h_are_days h_are_words v_MOST_SPAN v_MOST_MANY n_isinstance n_str n_len n_tuple) g (fun _ _ _ _ _ _ us hl => match us, hl with | [_], _ => rfl)
/-! _law_rule -/
abbrev N__law_rule : List Str := ["_law_purse_here", "_law_way", "_law_many", "_law_days", "_law_start", "_law_end", "_law_day", "_law_k"]
theorem sc__law_rule : FnScope N__law_rule ["_law_purse_here", "_law_way"] (defScope S__law_rule) := ⟨rfl, rfl, rfl, by decide +kernel, rfl, by decide +kernel, by decide +kernel⟩
def m__law_rule : SM := (sSeq (sIf (tOfE (eOp2 lt2 (rVar 1) (rOf (eC (.int 2))))) (sRet (eTup (lCons (eOp2 ixD (rOf (eLst (lCons (eC (.str "song")) (lCons (eC (.str "singer")) lNil)))) (rVar 1)) (lCons (eCall [true, false, false] false F__law_number (aCons (rVar 0) (aCons (rOf (eC (.int 0))) (aCons (rOf (eC (.int 99999))) aNil)))) lNil)))) sNil) (sSeq (sIf (tOfE (eOp2 eqO (rVar 1) (rOf (eC (.int 2))))) (sRet (eTup (lCons (eC (.str "behind")) (lCons (eCall [true] false F__law_kind (aCons (rVar 0) aNil)) (lCons (eCall [true] false F__law_kind (aCons (rVar 0) aNil)) lNil))))) sNil) (sSeq (sIf (tOfE (eOp2 eqO (rVar 1) (rOf (eC (.int 3))))) (sSeq (sSet 3 (eCallB tuple3D (aCons (rOf (eComp (iRange1 (eC (.int 7))) (gNm 6) (tOfE (eOp2 eqO (rOf (eCall [true, false] false F__law_pick (aCons (rVar 0) (aCons (rOf (eC (.int 2))) aNil)))) (rOf (eC (.int 1))))) (eVar 6) [6])) aNil))) (sSeq (sSet 4 (eCall [true, false, false] false F__law_number (aCons (rVar 0) (aCons (rOf (eC (.int 0))) (aCons (rOf (eC (.int 23))) aNil))))) (sSeq (sSet 5 (eOp2 ixD (rOf (eLst (lCons (eC (.int 24)) (lCons (eOp2 addD (rVar 4) (rOf (eC (.int 1)))) (lCons (eOp2 addD (rOf (eOp2 addD (rVar 4) (rOf (eC (.int 1))))) (rOf (eCall [true, false] false F__law_pick (aCons (rVar 0) (aCons (rOf (eOp2 subD (rOf (eC (.int 24))) (rVar 4))) aNil))))) lNil))))) (rOf (eCall [true, false] false F__law_pick (aCons (rVar 0) (aCons (rOf (eC (.int 3))) aNil)))))) (sRet (eTup (lCons (eC (.str "never")) (lCons (eCall [true] false F__law_kind (aCons (rVar 0) aNil)) (lCons (eOp2 addD (rVar 3) (rOf (eOp2 mul3 (rOf (eTup (lCons (eC (.int 3)) lNil))) (rOf (eCallB intD (aCons (rOf (eOp2 eqO (rVar 3) (rOf (eTup lNil)))) aNil)))))) (lCons (eVar 4) (lCons (eVar 5) lNil)))))))))) sNil) (sSeq (sIf (tOfE (eOp2 eqO (rVar 1) (rOf (eC (.int 4))))) (sRet (eTup (lCons (eC (.str "most")) (lCons (eCall [true] false F__law_kind (aCons (rVar 0) aNil)) (lCons (eCall [true, false, false] false F__law_number (aCons (rVar 0) (aCons (rOf (eC (.int 1))) (aCons (rOf (eC (.int 99))) aNil)))) (lCons (eCall [true, false, false] false F__law_number (aCons (rVar 0) (aCons (rOf (eC (.int 0))) (aCons (rOf (eC (.int 99999))) aNil)))) lNil)))))) sNil) (sSeq (sIf (tOfE (eOp2 eqO (rVar 1) (rOf (eC (.int 5))))) (sRet (eTup (lCons (eC (.str "fresh")) (lCons (eCall [true, false, false] false F__law_number (aCons (rVar 0) (aCons (rOf (eC (.int 0))) (aCons (rOf (eC (.int 99999))) aNil)))) lNil)))) sNil) (sSeq (sSet 2 (eOp2 ixD (rOf (eLst (lCons (eC (.int 1)) (lCons (eC (.int 2)) (lCons (eC (.int 7)) (lCons (eC (.int 8)) lNil)))))) (rOf (eCall [true, false] false F__law_pick (aCons (rVar 0) (aCons (rOf (eC (.int 4))) aNil)))))) (sRet (eTup (lCons (eC (.str "wheel")) (lCons (eCallB tuple3D (aCons (rOf (eComp (iRange1 (eVar 2)) (gNm 7) tYesM (eCall [true] false F__law_any_name (aCons (rVar 0) aNil)) [7])) aNil)) lNil))))))))))
def F__law_rule : List D → FRes := runF [true, false] 8 m__law_rule
theorem fn__law_rule {P : Program} {w : World} {K : PySem.W.Frag} {mg : Str → Option Value} {base : Heap} {f : Addr} {fd : FuncData} (D : FnP K "_law_rule" S__law_rule f fd)  (h__law_number : Has P w K mg base 2 "_law_number" [true, false, false] F__law_number) (h__law_kind : Has P w K mg base 3 "_law_kind" [true] F__law_kind) (h__law_pick : Has P w K mg base 1 "_law_pick" [true, false] F__law_pick) (h__law_any_name : Has P w K mg base 2 "_law_any_name" [true] F__law_any_name) (n_range : mg "range" = none) (n_tuple : mg "tuple" = none) (n_int : mg "int" = none) : FnOk P w K mg base (L2.CX P w) 4 f fd ["_law_purse_here", "_law_way"] (spF K mg [true, false] F__law_rule) := by
  refine fn_defD (k := 3) D sc__law_rule rfl fun cdv A outer s H E hr => ?_
  have c := cd_of (X := cxOf (L2.CX P w) P w K mg base N__law_rule "_law_rule" (defScope S__law_rule) f cdv A outer s H E) hr
  have tk := takes_of (X := cxOf (L2.CX P w) P w K mg base N__law_rule "_law_rule" (defScope S__law_rule) f cdv A outer s H E) (E := E) rfl rfl rfl rfl
  have nd := sc__law_rule.nd
  exact (dss_cons (ds_if (dt_cmp (op_lt2 c) o_lt2 (dr_var (pv 1)) (dr_e de_int) (by with_unfolding_all rfl)) (dss_one (ds_ret (de_tup (dl_cons (de_ix c (dr_e (de_f (df_lst (dl_cons de_str (dl_cons de_str dl_nil))))) (dr_var (pv 1))) (dl_cons (de_callH h__law_number hr rfl tk (da_cons (dr_var (pv 0)) (da_cons (dr_e de_int) (da_cons (dr_e de_int) da_nil))) (by omega)) dl_nil))))) dss_nil) (dss_cons (ds_if (dt_cmp (op_eq2 c) o_eq (dr_var (pv 1)) (dr_e de_int) (by with_unfolding_all rfl)) (dss_one (ds_ret (de_tup (dl_cons de_str (dl_cons (de_callH h__law_kind hr rfl tk (da_cons (dr_var (pv 0)) da_nil) (by omega)) (dl_cons (de_callH h__law_kind hr rfl tk (da_cons (dr_var (pv 0)) da_nil) (by omega)) dl_nil)))))) dss_nil) (dss_cons (ds_if (dt_cmp (op_eq2 c) o_eq (dr_var (pv 1)) (dr_e de_int) (by with_unfolding_all rfl)) (dss_cons (ds_set (i := 3) nd rfl (by first | exact Or.inl rfl | exact Or.inr rfl) (de_callT (call_tup3 c.calm) f_tup3 rfl n_tuple bt_tuple (da_cons (dr_e (de_f (df_comp c nd (di_range1 rfl n_range de_int) (blkOk_by (N := N__law_rule) (sc := defScope S__law_rule) (own := [("_law_day", 6)]) (by decide +kernel)) (fun _ _ _ _ _ => (dg_name (i := 6) nd rfl (by first | exact Or.inl rfl | exact Or.inr rfl))) (fun _ _ _ _ _ => (dts_one (dt_cmp (op_eq2 c.blk) o_eq (dr_e (de_callH h__law_pick hr rfl takes0 (da_cons (dr_var (pv 0)) (da_cons (dr_e de_int) da_nil)) (by omega))) (dr_e de_int) (by with_unfolding_all rfl)))) (fun _ _ _ _ _ => (de_var (pv 6)))))) da_nil))) (dss_cons (ds_set (i := 4) nd rfl (by first | exact Or.inl rfl | exact Or.inr rfl) (de_callH h__law_number hr rfl tk (da_cons (dr_var (pv 0)) (da_cons (dr_e de_int) (da_cons (dr_e de_int) da_nil))) (by omega))) (dss_cons (ds_set (i := 5) nd rfl (by first | exact Or.inl rfl | exact Or.inr rfl) (de_ix c (dr_e (de_f (df_lst (dl_cons de_int (dl_cons (de_op op_add4 o_add (dr_var (pv 4)) (dr_e de_int)) (dl_cons (de_op op_add4 o_add (dr_e (de_op op_add4 o_add (dr_var (pv 4)) (dr_e de_int))) (dr_e (de_callH h__law_pick hr rfl tk (da_cons (dr_var (pv 0)) (da_cons (dr_e (de_op op_sub o_sub (dr_e de_int) (dr_var (pv 4)))) da_nil)) (by omega)))) dl_nil)))))) (dr_e (de_callH h__law_pick hr rfl tk (da_cons (dr_var (pv 0)) (da_cons (dr_e de_int) da_nil)) (by omega))))) (dss_one (ds_ret (de_tup (dl_cons de_str (dl_cons (de_callH h__law_kind hr rfl tk (da_cons (dr_var (pv 0)) da_nil) (by omega)) (dl_cons (de_op op_add4 o_add (dr_var (pv 3)) (dr_e (de_op op_mul3 o_mul3 (dr_e (de_tup (dl_cons de_int dl_nil))) (dr_e (de_callT call_int1 f_int rfl n_int bt_int (da_cons (dr_e (de_cmp (op_eq2 c) o_eq (dr_var (pv 3)) (dr_e (de_tup dl_nil)) (by with_unfolding_all rfl))) da_nil)))))) (dl_cons (de_var (pv 4)) (dl_cons (de_var (pv 5)) dl_nil))))))))))) dss_nil) (dss_cons (ds_if (dt_cmp (op_eq2 c) o_eq (dr_var (pv 1)) (dr_e de_int) (by with_unfolding_all rfl)) (dss_one (ds_ret (de_tup (dl_cons de_str (dl_cons (de_callH h__law_kind hr rfl tk (da_cons (dr_var (pv 0)) da_nil) (by omega)) (dl_cons (de_callH h__law_number hr rfl tk (da_cons (dr_var (pv 0)) (da_cons (dr_e de_int) (da_cons (dr_e de_int) da_nil))) (by omega)) (dl_cons (de_callH h__law_number hr rfl tk (da_cons (dr_var (pv 0)) (da_cons (dr_e de_int) (da_cons (dr_e de_int) da_nil))) (by omega)) dl_nil))))))) dss_nil) (dss_cons (ds_if (dt_cmp (op_eq2 c) o_eq (dr_var (pv 1)) (dr_e de_int) (by with_unfolding_all rfl)) (dss_one (ds_ret (de_tup (dl_cons de_str (dl_cons (de_callH h__law_number hr rfl tk (da_cons (dr_var (pv 0)) (da_cons (dr_e de_int) (da_cons (dr_e de_int) da_nil))) (by omega)) dl_nil))))) dss_nil) (dss_cons (ds_set (i := 2) nd rfl (by first | exact Or.inl rfl | exact Or.inr rfl) (de_ix c (dr_e (de_f (df_lst (dl_cons de_int (dl_cons de_int (dl_cons de_int (dl_cons de_int dl_nil))))))) (dr_e (de_callH h__law_pick hr rfl tk (da_cons (dr_var (pv 0)) (da_cons (dr_e de_int) da_nil)) (by omega))))) (dss_one (ds_ret (de_tup (dl_cons de_str (dl_cons (de_callT (call_tup3 c.calm) f_tup3 rfl n_tuple bt_tuple (da_cons (dr_e (de_f (df_comp c nd (di_range1 rfl n_range (de_var (pv 2))) (blkOk_by (N := N__law_rule) (sc := defScope S__law_rule) (own := [("_law_k", 7)]) (by decide +kernel)) (fun _ _ _ _ _ => (dg_name (i := 7) nd rfl (by first | exact Or.inl rfl | exact Or.inr rfl))) (fun _ _ _ _ _ => dts_nil) (fun _ _ _ _ _ => (de_callH h__law_any_name hr rfl takes0 (da_cons (dr_var (pv 0)) da_nil) (by omega)))))) da_nil)) dl_nil)))))))))))
theorem has__law_rule {P : Program} {w : World} {K : PySem.W.Frag} {mg : Str → Option Value} {base : Heap} {f : Addr} {fd : FuncData} (D : FnP K "_law_rule" S__law_rule f fd) (g : mg "_law_rule" = some (.ref f)) (h__law_number : Has P w K mg base 2 "_law_number" [true, false, false] F__law_number) (h__law_kind : Has P w K mg base 3 "_law_kind" [true] F__law_kind) (h__law_pick : Has P w K mg base 1 "_law_pick" [true, false] F__law_pick) (h__law_any_name : Has P w K mg base 2 "_law_any_name" [true] F__law_any_name) (n_range : mg "range" = none) (n_tuple : mg "tuple" = none) (n_int : mg "int" = none) : Has P w K mg base 4 "_law_rule" [true, false] F__law_rule :=
  has_of D (fn__law_rule D h__law_number h__law_kind h__law_pick h__law_any_name n_range n_tuple n_int) g (fun _ _ _ _ _ _ us hl => match us, hl with | [_, _], _ => rfl)
/-! _law_due -/
abbrev N__law_due : List Str := ["_law_text", "_law_found", "_law_number_here", "_law_row_here", "_law_words", "_law_parts", "_law_twice", "_law_rule_here"]
theorem sc__law_due : FnScope N__law_due ["_law_text"] (defScope S__law_due) := ⟨rfl, rfl, rfl, by decide +kernel, rfl, by decide +kernel, by decide +kernel⟩
def m__law_due : SM := (sSeq (sSetO 1 (eLst lNil)) (sSeq (sIf (tOfE (eOp2 eqO (rVar 0) (rOf (eC (.str ""))))) (sRet (eTup (lCons (eC (.str "told")) (lCons (eTup lNil) lNil)))) sNil) (sSeq (sFor (iEnumM (eSplit (eVar 0) (eC (.str "\n")))) (gTp 2 (gsCons (gNm 2) (gsCons (gNm 3) gsNil))) (sSeq (sSet 4 (eSplit (eVar 3) (eC (.str " ")))) (sSeq (sSet 5 (eCall [false, false] false F__law_parts_in (aCons (rOf (eOp2 ixD (rVar 4) (rOf (eC (.int 0))))) (aCons (rOf (eSl (rVar 4) (oSome (eC (.int 1))) oNo)) aNil)))) (sSeq (sSet 6 (eAnd (eOp2 inD (rOf (eOp2 ixD (rVar 4) (rOf (eC (.int 0))))) (rOf (eTup (lCons (eC (.str "fresh")) (lCons (eC (.str "wheel")) lNil))))) (eOp2 inD (rOf (eOp2 ixD (rVar 4) (rOf (eC (.int 0))))) (rOf (eCompO 1 (gNm 7) tYesM (eOp2 ixD (rVar 7) (rOf (eC (.int 0)))) [7]))))) (sSeq (sIf (tOrM (tOfE (eOp2 inD (rOf (eC .non)) (rVar 5))) (tOrM (tOfE (eVar 6)) (tOfE (eOp2 eqO (rVar 2) (rOf (eC (.int 12))))))) (sRet (eTup (lCons (eC (.str "refused")) (lCons (eVar 2) lNil)))) sNil) (sDrop (eMut 1 isLst appD (lCons (eOp2 addD (rOf (eTup (lCons (eOp2 ixD (rVar 4) (rOf (eC (.int 0)))) lNil))) (rVar 5)) lNil)))))))) (sRet (eTup (lCons (eC (.str "told")) (lCons (eCallB tuple3D (aCons (rVar 1) aNil)) lNil)))))))
def F__law_due : List D → FRes := runF [false] 8 m__law_due
theorem fn__law_due {P : Program} {w : World} {K : PySem.W.Frag} {mg : Str → Option Value} {base : Heap} {f : Addr} {fd : FuncData} (D : FnP K "_law_due" S__law_due f fd)  (h__law_parts_in : Has P w K mg base 3 "_law_parts_in" [false, false] F__law_parts_in) (n_enumerate : mg "enumerate" = none) (n_tuple : mg "tuple" = none) : FnOk P w K mg base (L2.CX P w) 4 f fd ["_law_text"] (spF K mg [false] F__law_due) := by
  refine fn_defD (k := 3) D sc__law_due rfl fun cdv A outer s H E hr => ?_
  have c := cd_of (X := cxOf (L2.CX P w) P w K mg base N__law_due "_law_due" (defScope S__law_due) f cdv A outer s H E) hr
  have tk := takes_of (X := cxOf (L2.CX P w) P w K mg base N__law_due "_law_due" (defScope S__law_due) f cdv A outer s H E) (E := E) rfl rfl rfl rfl
  have nd := sc__law_due.nd
  exact (dss_cons (ds_setO (i := 1) nd rfl (by first | exact Or.inl rfl | exact Or.inr rfl) (df_lst dl_nil)) (dss_cons (ds_if (dt_cmp (op_eq2 c) o_eq (dr_var (pv 0)) (dr_e de_str) (by with_unfolding_all rfl)) (dss_one (ds_ret (de_tup (dl_cons de_str (dl_cons (de_tup dl_nil) dl_nil))))) dss_nil) (dss_cons (ds_for c (passes_of rfl) (di_enum rfl n_enumerate (de_split (de_var (pv 0)) de_str)) (dg_tup (n := 2) c (dgs_cons (dg_name (i := 2) nd rfl (by first | exact Or.inl rfl | exact Or.inr rfl)) (dgs_cons (dg_name (i := 3) nd rfl (by first | exact Or.inl rfl | exact Or.inr rfl)) dgs_nil))) (dss_cons (ds_set (i := 4) nd rfl (by first | exact Or.inl rfl | exact Or.inr rfl) (de_split (de_var (pv 3)) de_str)) (dss_cons (ds_set (i := 5) nd rfl (by first | exact Or.inl rfl | exact Or.inr rfl) (de_callH h__law_parts_in hr rfl tk (da_cons (dr_e (de_ix c (dr_var (pv 4)) (dr_e de_int))) (da_cons (dr_e (de_sl (dr_var (pv 4)) (do_some de_int) do_none)) da_nil)) (by omega))) (dss_cons (ds_set (i := 6) nd rfl (by first | exact Or.inl rfl | exact Or.inr rfl) (de_and (de_cmp (op_in c) o_in (dr_e (de_ix c (dr_var (pv 4)) (dr_e de_int))) (dr_e (de_tup (dl_cons de_str (dl_cons de_str dl_nil)))) (by with_unfolding_all rfl)) (de_one (de_cmp (op_in c) o_in (dr_e (de_ix c (dr_var (pv 4)) (dr_e de_int))) (dr_e (de_f (df_compO c nd (pv 1) (blkOk_by (N := N__law_due) (sc := defScope S__law_due) (own := [("_law_rule_here", 7)]) (by decide +kernel)) (fun _ _ _ _ _ => (dg_name (i := 7) nd rfl (by first | exact Or.inl rfl | exact Or.inr rfl))) (fun _ _ _ _ _ => dts_nil) (fun _ _ _ _ _ => (de_ix c.blk (dr_var (pv 7)) (dr_e de_int)))))) (by with_unfolding_all rfl))))) (dss_cons (ds_if (dt_w (dw_or (dt_cmp (op_in c) o_in (dr_e de_non) (dr_var (pv 5)) (by with_unfolding_all rfl)) (dw_or (dt_e (de_var (pv 6))) (dw_or1 (dt_cmp (op_eq2 c) o_eq (dr_var (pv 2)) (dr_e de_int) (by with_unfolding_all rfl)))))) (dss_one (ds_ret (de_tup (dl_cons de_str (dl_cons (de_var (pv 2)) dl_nil))))) dss_nil) (dss_one (ds_expr (de_mut (pv 1) PySem.F.slot_list_append PySem.F.type_list_append mt_append m_append (dl_cons (de_op op_add4 o_add (dr_e (de_tup (dl_cons (de_ix c (dr_var (pv 4)) (dr_e de_int)) dl_nil))) (dr_var (pv 5))) dl_nil))))))))) (dss_one (ds_ret (de_tup (dl_cons de_str (dl_cons (de_callT (call_tup3 c.calm) f_tup3 rfl n_tuple bt_tuple (da_cons (dr_var (pv 1)) da_nil)) dl_nil))))))))
theorem has__law_due {P : Program} {w : World} {K : PySem.W.Frag} {mg : Str → Option Value} {base : Heap} {f : Addr} {fd : FuncData} (D : FnP K "_law_due" S__law_due f fd) (g : mg "_law_due" = some (.ref f)) (h__law_parts_in : Has P w K mg base 3 "_law_parts_in" [false, false] F__law_parts_in) (n_enumerate : mg "enumerate" = none) (n_tuple : mg "tuple" = none) : Has P w K mg base 4 "_law_due" [false] F__law_due :=
  has_of D (fn__law_due D h__law_parts_in n_enumerate n_tuple) g (fun _ _ _ _ _ _ us hl => match us, hl with | [_], _ => rfl)
/-! is_rules -/
abbrev N_is_rules : List Str := ["x", "heads", "rule", "word"]
theorem sc_is_rules : FnScope N_is_rules ["x"] (defScope S_is_rules) := ⟨rfl, rfl, rfl, by decide +kernel, rfl, by decide +kernel, by decide +kernel⟩
def m_is_rules : SM := (sSeq (sIf (tOrM (tNotM (tOfE (eIsT .tuple (rVar 0)))) (tOrM (tOfE (eOp2 gt2 (rOf (eCallB lenD (aCons (rVar 0) aNil))) (rOf (eC G_MOST_RULES)))) (tNotM (tOfE (eCallB allD2 (aCons (rOf (eComp (iVal (eVar 0)) (gNm 2) tYesM (eCall [false] false F_is_rule (aCons (rVar 2) aNil)) [2])) aNil)))))) (sRet (eC (.bl false))) sNil) (sSeq (sSet 1 (eComp (iVal (eVar 0)) (gNm 2) tYesM (eOp2 ixD (rVar 2) (rOf (eC (.int 0)))) [2])) (sRet (eCallB allD2 (aCons (rOf (eComp (iVal (eC G_ONCE)) (gNm 3) tYesM (eOp2 le2 (rOf (eCount (rVar 1) (rVar 3))) (rOf (eC (.int 1)))) [3])) aNil)))))
def F_is_rules : List D → FRes := runF [false] 4 m_is_rules
theorem fn_is_rules {P : Program} {w : World} {K : PySem.W.Frag} {mg : Str → Option Value} {base : Heap} {f : Addr} {fd : FuncData} (D : FnP K "is_rules" S_is_rules f fd)  (h_is_rule : Has P w K mg base 4 "is_rule" [false] F_is_rule) (v_MOST_RULES : Gv K mg "MOST_RULES" G_MOST_RULES) (v_ONCE : Gv K mg "ONCE" G_ONCE) (n_all : mg "all" = none) (n_len : mg "len" = none) (n_isinstance : mg "isinstance" = none) (n_tuple : mg "tuple" = none) : FnOk P w K mg base (L2.CX P w) 5 f fd ["x"] (spF K mg [false] F_is_rules) := by
  refine fn_defD (k := 4) D sc_is_rules rfl fun cdv A outer s H E hr => ?_
  have c := cd_of (X := cxOf (L2.CX P w) P w K mg base N_is_rules "is_rules" (defScope S_is_rules) f cdv A outer s H E) hr
  have tk := takes_of (X := cxOf (L2.CX P w) P w K mg base N_is_rules "is_rules" (defScope S_is_rules) f cdv A outer s H E) (E := E) rfl rfl rfl rfl
  have nd := sc_is_rules.nd
  exact (dss_cons (ds_if (dt_w (dw_or (dt_not (dt_e (de_isT .tuple (dr_var (pv 0)) rfl n_isinstance rfl n_tuple bt_tuple))) (dw_or (dt_cmp (op_gt2 c) o_gt2 (dr_e (de_callB call_lenA f_len rfl n_len bt_len (da_cons (dr_var (pv 0)) da_nil))) (dr_e (de_glob v_MOST_RULES rfl)) (by with_unfolding_all rfl)) (dw_or1 (dt_not (dt_e (de_callB (cr_all c.calm) f_all rfl n_all bt_all (da_cons (dr_e (de_f (df_comp c nd (di_val (de_var (pv 0))) (blkOk_by (N := N_is_rules) (sc := defScope S_is_rules) (own := [("rule", 2)]) (by decide +kernel)) (fun _ _ _ _ _ => (dg_name (i := 2) nd rfl (by first | exact Or.inl rfl | exact Or.inr rfl))) (fun _ _ _ _ _ => dts_nil) (fun _ _ _ _ _ => (de_callH h_is_rule hr rfl takes0 (da_cons (dr_var (pv 2)) da_nil) (by omega)))))) da_nil)))))))) (dss_one (ds_ret de_bl)) dss_nil) (dss_cons (ds_set (i := 1) nd rfl (by first | exact Or.inl rfl | exact Or.inr rfl) (de_f (df_comp c nd (di_val (de_var (pv 0))) (blkOk_by (N := N_is_rules) (sc := defScope S_is_rules) (own := [("rule", 2)]) (by decide +kernel)) (fun _ _ _ _ _ => (dg_name (i := 2) nd rfl (by first | exact Or.inl rfl | exact Or.inr rfl))) (fun _ _ _ _ _ => dts_nil) (fun _ _ _ _ _ => (de_ix c.blk (dr_var (pv 2)) (dr_e de_int)))))) (dss_one (ds_ret (de_callB (cr_all c.calm) f_all rfl n_all bt_all (da_cons (dr_e (de_f (df_comp c nd (di_val (de_glob v_ONCE rfl)) (blkOk_by (N := N_is_rules) (sc := defScope S_is_rules) (own := [("word", 3)]) (by decide +kernel)) (fun _ _ _ _ _ => (dg_name (i := 3) nd rfl (by first | exact Or.inl rfl | exact Or.inr rfl))) (fun _ _ _ _ _ => dts_nil) (fun _ _ _ _ _ => (de_cmp (op_le2 c.blk) o_le2 (dr_e (de_count c.blk.units (dr_var (pv 1)) (dr_var (pv 3)))) (dr_e de_int) (by with_unfolding_all rfl)))))) da_nil))))))
theorem has_is_rules {P : Program} {w : World} {K : PySem.W.Frag} {mg : Str → Option Value} {base : Heap} {f : Addr} {fd : FuncData} (D : FnP K "is_rules" S_is_rules f fd) (g : mg "is_rules" = some (.ref f)) (h_is_rule : Has P w K mg base 4 "is_rule" [false] F_is_rule) (v_MOST_RULES : Gv K mg "MOST_RULES" G_MOST_RULES) (v_ONCE : Gv K mg "ONCE" G_ONCE) (n_all : mg "all" = none) (n_len : mg "len" = none) (n_isinstance : mg "isinstance" = none) (n_tuple : mg "tuple" = none) : Has P w K mg base 5 "is_rules" [false] F_is_rules :=
  has_of D (fn_is_rules D h_is_rule v_MOST_RULES v_ONCE n_all n_len n_isinstance n_tuple) g (fun _ _ _ _ _ _ us hl => match us, hl with | [_], _ => rfl)
/-! _law_rules -/
abbrev N__law_rules : List Str := ["_law_purse_here", "_law_many", "_law_found", "_law_way", "_law_k"]
theorem sc__law_rules : FnScope N__law_rules ["_law_purse_here", "_law_many"] (defScope S__law_rules) := ⟨rfl, rfl, rfl, by decide +kernel, rfl, by decide +kernel, by decide +kernel⟩
def m__law_rules : SM := (sSeq (sSetO 2 (eComp (iRange1 (eVar 1)) (gNm 4) tYesM (eCall [true, false] false F__law_rule (aCons (rVar 0) (aCons (rOf (eCall [true, false] false F__law_pick (aCons (rVar 0) (aCons (rOf (eC (.int 5))) aNil)))) aNil))) [4])) (sSeq (sFor (iVal (eLst (lCons (eC (.int 5)) (lCons (eC (.int 6)) (lCons (eC (.int 5)) (lCons (eC (.int 6)) lNil)))))) (gNm 3) (sIf (tAndM (tOfE (eOp2 neO (rVar 2) (rOf (eLst lNil)))) (tOfE (eOp2 eqO (rOf (eCall [true, false] false F__law_pick (aCons (rVar 0) (aCons (rOf (eC (.int 3))) aNil)))) (rOf (eC (.int 0)))))) (sSetIx 2 (eCall [true, false] false F__law_rule (aCons (rVar 0) (aCons (rVar 3) aNil))) (eCall [true, false] false F__law_pick (aCons (rVar 0) (aCons (rOf (eCallB lenD (aCons (rVar 2) aNil))) aNil)))) sNil)) (sRet (eCallB tuple3D (aCons (rVar 2) aNil)))))
def F__law_rules : List D → FRes := runF [true, false] 5 m__law_rules
theorem fn__law_rules {P : Program} {w : World} {K : PySem.W.Frag} {mg : Str → Option Value} {base : Heap} {f : Addr} {fd : FuncData} (D : FnP K "_law_rules" S__law_rules f fd)  (h__law_pick : Has P w K mg base 1 "_law_pick" [true, false] F__law_pick) (h__law_rule : Has P w K mg base 4 "_law_rule" [true, false] F__law_rule) (n_range : mg "range" = none) (n_len : mg "len" = none) (n_tuple : mg "tuple" = none) : FnOk P w K mg base (L2.CX P w) 5 f fd ["_law_purse_here", "_law_many"] (spF K mg [true, false] F__law_rules) := by
  refine fn_defD (k := 4) D sc__law_rules rfl fun cdv A outer s H E hr => ?_
  have c := cd_of (X := cxOf (L2.CX P w) P w K mg base N__law_rules "_law_rules" (defScope S__law_rules) f cdv A outer s H E) hr
  have tk := takes_of (X := cxOf (L2.CX P w) P w K mg base N__law_rules "_law_rules" (defScope S__law_rules) f cdv A outer s H E) (E := E) rfl rfl rfl rfl
  have nd := sc__law_rules.nd
  exact (dss_cons (ds_setLcO (i := 2) c nd rfl rfl (sw_true rfl rfl rfl (by decide +kernel)) (di_range1 rfl n_range (de_var (pv 1))) (blkOk_by (N := N__law_rules) (sc := defScope S__law_rules) (own := [("_law_k", 4)]) (by decide +kernel)) (fun _ _ _ _ _ => (dg_name (i := 4) nd rfl (by first | exact Or.inl rfl | exact Or.inr rfl))) (fun _ _ _ _ _ => dts_nil) (fun _ _ _ _ _ => (de_callH h__law_rule hr rfl takes0 (da_cons (dr_var (pv 0)) (da_cons (dr_e (de_callH h__law_pick hr rfl takes0 (da_cons (dr_var (pv 0)) (da_cons (dr_e de_int) da_nil)) (by omega))) da_nil)) (by omega)))) (dss_cons (ds_for c (passes_of rfl) (di_val (de_f (df_lst (dl_cons de_int (dl_cons de_int (dl_cons de_int (dl_cons de_int dl_nil))))))) (dg_name (i := 3) nd rfl (by first | exact Or.inl rfl | exact Or.inr rfl)) (dss_one (ds_if (dt_w (dw_and (dt_cmp (op_ne2 c) o_ne (dr_var (pv 2)) (dr_e (de_f (df_lst dl_nil))) (by with_unfolding_all rfl)) (dw_and1 (dt_cmp (op_eq2 c) o_eq (dr_e (de_callH h__law_pick hr rfl tk (da_cons (dr_var (pv 0)) (da_cons (dr_e de_int) da_nil)) (by omega))) (dr_e de_int) (by with_unfolding_all rfl))))) (dss_one (ds_setIx (i := 2) (pv 2) (de_callH h__law_rule hr rfl tk (da_cons (dr_var (pv 0)) (da_cons (dr_var (pv 3)) da_nil)) (by omega)) (de_callH h__law_pick hr rfl tk (da_cons (dr_var (pv 0)) (da_cons (dr_e (de_callB call_lenA f_len rfl n_len bt_len (da_cons (dr_var (pv 2)) da_nil))) da_nil)) (by omega)))) dss_nil))) (dss_one (ds_ret (de_callT (call_tup3 c.calm) f_tup3 rfl n_tuple bt_tuple (da_cons (dr_var (pv 2)) da_nil))))))
theorem has__law_rules {P : Program} {w : World} {K : PySem.W.Frag} {mg : Str → Option Value} {base : Heap} {f : Addr} {fd : FuncData} (D : FnP K "_law_rules" S__law_rules f fd) (g : mg "_law_rules" = some (.ref f)) (h__law_pick : Has P w K mg base 1 "_law_pick" [true, false] F__law_pick) (h__law_rule : Has P w K mg base 4 "_law_rule" [true, false] F__law_rule) (n_range : mg "range" = none) (n_len : mg "len" = none) (n_tuple : mg "tuple" = none) : Has P w K mg base 5 "_law_rules" [true, false] F__law_rules :=
  has_of D (fn__law_rules D h__law_pick h__law_rule n_range n_len n_tuple) g (fun _ _ _ _ _ _ us hl => match us, hl with | [_, _], _ => rfl)
/-! check_rules -/
abbrev N_check_rules : List Str := ["rules"]
theorem sc_check_rules : FnScope N_check_rules ["rules"] (defScope S_check_rules) := ⟨rfl, rfl, rfl, by decide +kernel, rfl, by decide +kernel, by decide +kernel⟩
def m_check_rules : SM := (sIf (tNotM (tOfE (eCall [false] false F_is_rules (aCons (rVar 0) aNil)))) (sRaise "NoRules") sNil)
def F_check_rules : List D → FRes := runF [false] 1 m_check_rules
theorem fn_check_rules {P : Program} {w : World} {K : PySem.W.Frag} {mg : Str → Option Value} {base : Heap} {f : Addr} {fd : FuncData} (D : FnP K "check_rules" S_check_rules f fd)  (h_is_rules : Has P w K mg base 5 "is_rules" [false] F_is_rules) (xf : ClsF K mg CSnames TSnames) : FnOk P w K mg base (L2.CX P w) 6 f fd ["rules"] (spF K mg [false] F_check_rules) := by
  refine fn_defD (k := 5) D sc_check_rules rfl fun cdv A outer s H E hr => ?_
  have c := cd_of (X := cxOf (L2.CX P w) P w K mg base N_check_rules "check_rules" (defScope S_check_rules) f cdv A outer s H E) hr
  have tk := takes_of (X := cxOf (L2.CX P w) P w K mg base N_check_rules "check_rules" (defScope S_check_rules) f cdv A outer s H E) (E := E) rfl rfl rfl rfl
  have nd := sc_check_rules.nd
  exact (dss_one (ds_if (dt_not (dt_e (de_callH h_is_rules hr rfl tk (da_cons (dr_var (pv 0)) da_nil) (by omega)))) (dss_one (ds_raiseF c tk xf rfl rfl)) dss_nil))
theorem has_check_rules {P : Program} {w : World} {K : PySem.W.Frag} {mg : Str → Option Value} {base : Heap} {f : Addr} {fd : FuncData} (D : FnP K "check_rules" S_check_rules f fd) (g : mg "check_rules" = some (.ref f)) (h_is_rules : Has P w K mg base 5 "is_rules" [false] F_is_rules) (xf : ClsF K mg CSnames TSnames) : Has P w K mg base 6 "check_rules" [false] F_check_rules :=
  has_of D (fn_check_rules D h_is_rules xf) g (fun _ _ _ _ _ _ us hl => match us, hl with | [_], _ => rfl)
/-! read_rules -/
abbrev N_read_rules : List Str := ["text", "found", "number", "row"]
theorem sc_read_rules : FnScope N_read_rules ["text"] (defScope S_read_rules) := ⟨rfl, rfl, rfl, by decide +kernel, rfl, by decide +kernel, by decide +kernel⟩
def m_read_rules : SM := (sSeq (sIf (tNotM (tOfE (eIsT .str (rVar 0)))) (sRaiseR "NoText" (eC (.int 0))) sNil) (sSeq (sIf (tOfE (eOp2 eqO (rVar 0) (rOf (eC (.str ""))))) (sRet (eTup lNil)) sNil) (sSeq (sSet 1 (eTup lNil)) (sSeq (sFor (iEnumM (eSplit (eVar 0) (eC (.str "\n")))) (gTp 2 (gsCons (gNm 2) (gsCons (gNm 3) gsNil))) (sSeq (sSet 1 (eOp2 addD (rVar 1) (rOf (eTup (lCons (eCall [false] false F_rule_in (aCons (rVar 3) aNil)) lNil))))) (sIf (tNotM (tOfE (eCall [false] false F_is_rules (aCons (rVar 1) aNil)))) (sRaiseR "NoText" (eVar 2)) sNil))) (sRet (eVar 1))))))
def F_read_rules : List D → FRes := runF [false] 4 m_read_rules
theorem fn_read_rules {P : Program} {w : World} {K : PySem.W.Frag} {mg : Str → Option Value} {base : Heap} {f : Addr} {fd : FuncData} (D : FnP K "read_rules" S_read_rules f fd)  (h_rule_in : Has P w K mg base 2 "rule_in" [false] F_rule_in) (h_is_rules : Has P w K mg base 5 "is_rules" [false] F_is_rules) (nt : NtF P w K mg base) (n_isinstance : mg "isinstance" = none) (n_str : mg "str" = none) (n_enumerate : mg "enumerate" = none) : FnOk P w K mg base (L2.CX P w) 6 f fd ["text"] (spF K mg [false] F_read_rules) := by
  refine fn_defD (k := 5) D sc_read_rules rfl fun cdv A outer s H E hr => ?_
  have c := cd_of (X := cxOf (L2.CX P w) P w K mg base N_read_rules "read_rules" (defScope S_read_rules) f cdv A outer s H E) hr
  have tk := takes_of (X := cxOf (L2.CX P w) P w K mg base N_read_rules "read_rules" (defScope S_read_rules) f cdv A outer s H E) (E := E) rfl rfl rfl rfl
  have nd := sc_read_rules.nd
  exact (dss_cons (ds_if (dt_not (dt_e (de_isT .str (dr_var (pv 0)) rfl n_isinstance rfl n_str bt_str))) (dss_one (ds_raiseR c tk nt hr rfl de_int)) dss_nil) (dss_cons (ds_if (dt_cmp (op_eq2 c) o_eq (dr_var (pv 0)) (dr_e de_str) (by with_unfolding_all rfl)) (dss_one (ds_ret (de_tup dl_nil))) dss_nil) (dss_cons (ds_set (i := 1) nd rfl (by first | exact Or.inl rfl | exact Or.inr rfl) (de_tup dl_nil)) (dss_cons (ds_for c (passes_of rfl) (di_enum rfl n_enumerate (de_split (de_var (pv 0)) de_str)) (dg_tup (n := 2) c (dgs_cons (dg_name (i := 2) nd rfl (by first | exact Or.inl rfl | exact Or.inr rfl)) (dgs_cons (dg_name (i := 3) nd rfl (by first | exact Or.inl rfl | exact Or.inr rfl)) dgs_nil))) (dss_cons (ds_set (i := 1) nd rfl (by first | exact Or.inl rfl | exact Or.inr rfl) (de_op op_add4 o_add (dr_var (pv 1)) (dr_e (de_tup (dl_cons (de_callH h_rule_in hr rfl tk (da_cons (dr_var (pv 3)) da_nil) (by omega)) dl_nil))))) (dss_one (ds_if (dt_not (dt_e (de_callH h_is_rules hr rfl tk (da_cons (dr_var (pv 1)) da_nil) (by omega)))) (dss_one (ds_raiseR c tk nt hr rfl (de_var (pv 2)))) dss_nil)))) (dss_one (ds_ret (de_var (pv 1))))))))
theorem has_read_rules {P : Program} {w : World} {K : PySem.W.Frag} {mg : Str → Option Value} {base : Heap} {f : Addr} {fd : FuncData} (D : FnP K "read_rules" S_read_rules f fd) (g : mg "read_rules" = some (.ref f)) (h_rule_in : Has P w K mg base 2 "rule_in" [false] F_rule_in) (h_is_rules : Has P w K mg base 5 "is_rules" [false] F_is_rules) (nt : NtF P w K mg base) (n_isinstance : mg "isinstance" = none) (n_str : mg "str" = none) (n_enumerate : mg "enumerate" = none) : Has P w K mg base 6 "read_rules" [false] F_read_rules :=
  has_of D (fn_read_rules D h_rule_in h_is_rules nt n_isinstance n_str n_enumerate) g (fun _ _ _ _ _ _ us hl => match us, hl with | [_], _ => rfl)
/-! show_rules -/
abbrev N_show_rules : List Str := ["rules", "rule"]
theorem sc_show_rules : FnScope N_show_rules ["rules"] (defScope S_show_rules) := ⟨rfl, rfl, rfl, by decide +kernel, rfl, by decide +kernel, by decide +kernel⟩
def m_show_rules : SM := (sSeq (sDrop (eCall [false] false F_check_rules (aCons (rVar 0) aNil))) (sRet (eJoin (eC (.str "\n")) (eComp (iVal (eVar 0)) (gNm 1) tYesM (eCall [false] false F_shown_rule (aCons (rVar 1) aNil)) [1]))))
def F_show_rules : List D → FRes := runF [false] 2 m_show_rules
theorem fn_show_rules {P : Program} {w : World} {K : PySem.W.Frag} {mg : Str → Option Value} {base : Heap} {f : Addr} {fd : FuncData} (D : FnP K "show_rules" S_show_rules f fd)  (h_check_rules : Has P w K mg base 6 "check_rules" [false] F_check_rules) (h_shown_rule : Has P w K mg base 1 "shown_rule" [false] F_shown_rule)  : FnOk P w K mg base (L2.CX P w) 7 f fd ["rules"] (spF K mg [false] F_show_rules) := by
  refine fn_defD (k := 6) D sc_show_rules rfl fun cdv A outer s H E hr => ?_
  have c := cd_of (X := cxOf (L2.CX P w) P w K mg base N_show_rules "show_rules" (defScope S_show_rules) f cdv A outer s H E) hr
  have tk := takes_of (X := cxOf (L2.CX P w) P w K mg base N_show_rules "show_rules" (defScope S_show_rules) f cdv A outer s H E) (E := E) rfl rfl rfl rfl
  have nd := sc_show_rules.nd
  exact (dss_cons (ds_expr (de_callH h_check_rules hr rfl tk (da_cons (dr_var (pv 0)) da_nil) (by omega))) (dss_one (ds_ret (de_join de_str (de_f (df_comp c nd (di_val (de_var (pv 0))) (blkOk_by (N := N_show_rules) (sc := defScope S_show_rules) (own := [("rule", 1)]) (by decide +kernel)) (fun _ _ _ _ _ => (dg_name (i := 1) nd rfl (by first | exact Or.inl rfl | exact Or.inr rfl))) (fun _ _ _ _ _ => dts_nil) (fun _ _ _ _ _ => (de_callH h_shown_rule hr rfl takes0 (da_cons (dr_var (pv 1)) da_nil) (by omega)))))))))
theorem has_show_rules {P : Program} {w : World} {K : PySem.W.Frag} {mg : Str → Option Value} {base : Heap} {f : Addr} {fd : FuncData} (D : FnP K "show_rules" S_show_rules f fd) (g : mg "show_rules" = some (.ref f)) (h_check_rules : Has P w K mg base 6 "check_rules" [false] F_check_rules) (h_shown_rule : Has P w K mg base 1 "shown_rule" [false] F_shown_rule)  : Has P w K mg base 7 "show_rules" [false] F_show_rules :=
  has_of D (fn_show_rules D h_check_rules h_shown_rule) g (fun _ _ _ _ _ _ us hl => match us, hl with | [_], _ => rfl)
/-! _law_told -/
abbrev N__law_told : List Str := ["_law_text", "e"]
theorem sc__law_told : FnScope N__law_told ["_law_text"] (defScope S__law_told) := ⟨rfl, rfl, rfl, by decide +kernel, rfl, by decide +kernel, by decide +kernel⟩
def m__law_told : SM := (sTry ["NoText"] 1 (sRet (eTup (lCons (eC (.str "told")) (lCons (eCall [false] false F_read_rules (aCons (rVar 0) aNil)) lNil)))) (sRet (eTup (lCons (eC (.str "refused")) (lCons (eOp2 ixH (rOf (eLst (lCons (eRow 1) (lCons (eC .non) lNil)))) (rOf (eCallB intD (aCons (rOf (eIsT .bool (rOf (eRow 1)))) aNil)))) lNil)))))
def F__law_told : List D → FRes := runF [false] 2 m__law_told
theorem fn__law_told {P : Program} {w : World} {K : PySem.W.Frag} {mg : Str → Option Value} {base : Heap} {f : Addr} {fd : FuncData} (D : FnP K "_law_told" S__law_told f fd)  (h_read_rules : Has P w K mg base 6 "read_rules" [false] F_read_rules) (xf : ClsF K mg CSnames TSnames) (nt : NtF P w K mg base) (n_isinstance : mg "isinstance" = none) (n_bool : mg "bool" = none) (n_int : mg "int" = none) : FnOk P w K mg base (L2.CX P w) 7 f fd ["_law_text"] (spF K mg [false] F__law_told) := by
  refine fn_defD (k := 6) D sc__law_told rfl fun cdv A outer s H E hr => ?_
  have c := cd_of (X := cxOf (L2.CX P w) P w K mg base N__law_told "_law_told" (defScope S__law_told) f cdv A outer s H E) hr
  have tk := takes_of (X := cxOf (L2.CX P w) P w K mg base N__law_told "_law_told" (defScope S__law_told) f cdv A outer s H E) (E := E) rfl rfl rfl rfl
  have nd := sc__law_told.nd
  exact (dss_one (ds_try (i := 1) rfl rfl nd rfl rfl ⟨rfl, by decide, .inl nt.g⟩ rfl nt.tryN (fun _ pn xe tk1 po => (dss_one (ds_ret (de_tup (dl_cons de_str (dl_cons (de_callH h_read_rules hr rfl tk1 (da_cons (dr_var (pv 0)) da_nil) (by omega)) dl_nil)))))) (fun _ pn => (dss_one (ds_ret (de_tup (dl_cons de_str (dl_cons (de_ixH (dr_e (de_f (df_lst (dl_cons (de_row nt.xf nt.no (pv 1)) (dl_cons de_non dl_nil))))) (dr_e (de_callT call_int1 f_int rfl n_int bt_int (da_cons (dr_e (de_isT .bool (dr_e (de_row nt.xf nt.no (pv 1))) rfl n_isinstance rfl n_bool bt_bool)) da_nil)))) dl_nil))))))))
theorem has__law_told {P : Program} {w : World} {K : PySem.W.Frag} {mg : Str → Option Value} {base : Heap} {f : Addr} {fd : FuncData} (D : FnP K "_law_told" S__law_told f fd) (g : mg "_law_told" = some (.ref f)) (h_read_rules : Has P w K mg base 6 "read_rules" [false] F_read_rules) (xf : ClsF K mg CSnames TSnames) (nt : NtF P w K mg base) (n_isinstance : mg "isinstance" = none) (n_bool : mg "bool" = none) (n_int : mg "int" = none) : Has P w K mg base 7 "_law_told" [false] F__law_told :=
  has_of D (fn__law_told D h_read_rules xf nt n_isinstance n_bool n_int) g (fun _ _ _ _ _ _ us hl => match us, hl with | [_], _ => rfl)
/-! _law_right -/
abbrev N__law_right : List Str := ["_law_text", "_law_due_here"]
theorem sc__law_right : FnScope N__law_right ["_law_text"] (defScope S__law_right) := ⟨rfl, rfl, rfl, by decide +kernel, rfl, by decide +kernel, by decide +kernel⟩
def m__law_right : SM := (sSeq (sIf (tOfE (eOp2 gt2 (rOf (eCallB lenD (aCons (rVar 0) aNil))) (rOf (eC (.int 1000))))) (sRet (eC (.bl true))) sNil) (sSeq (sSet 1 (eCall [false] false F__law_due (aCons (rVar 0) aNil))) (sSeq (sIf (tOrM (tOfE (eOp2 neO (rOf (eCall [false] false F__law_told (aCons (rVar 0) aNil))) (rVar 1))) (tOfE (eOp2 neO (rOf (eCall [false] false F__law_told (aCons (rVar 0) aNil))) (rVar 1)))) (sRet (eC (.bl false))) sNil) (sRet (eOr (eOp2 neO (rOf (eOp2 ixD (rVar 1) (rOf (eC (.int 0))))) (rOf (eC (.str "told")))) (eOp2 eqO (rOf (eCall [false] false F_show_rules (aCons (rOf (eOp2 ixD (rVar 1) (rOf (eC (.int 1))))) aNil))) (rVar 0)))))))
def F__law_right : List D → FRes := runF [false] 2 m__law_right
theorem fn__law_right {P : Program} {w : World} {K : PySem.W.Frag} {mg : Str → Option Value} {base : Heap} {f : Addr} {fd : FuncData} (D : FnP K "_law_right" S__law_right f fd)  (h__law_due : Has P w K mg base 4 "_law_due" [false] F__law_due) (h__law_told : Has P w K mg base 7 "_law_told" [false] F__law_told) (h_show_rules : Has P w K mg base 7 "show_rules" [false] F_show_rules) (n_len : mg "len" = none) : FnOk P w K mg base (L2.CX P w) 8 f fd ["_law_text"] (spF K mg [false] F__law_right) := by
  refine fn_defD (k := 7) D sc__law_right rfl fun cdv A outer s H E hr => ?_
  have c := cd_of (X := cxOf (L2.CX P w) P w K mg base N__law_right "_law_right" (defScope S__law_right) f cdv A outer s H E) hr
  have tk := takes_of (X := cxOf (L2.CX P w) P w K mg base N__law_right "_law_right" (defScope S__law_right) f cdv A outer s H E) (E := E) rfl rfl rfl rfl
  have nd := sc__law_right.nd
  exact (dss_cons (ds_if (dt_cmp (op_gt2 c) o_gt2 (dr_e (de_callB call_lenA f_len rfl n_len bt_len (da_cons (dr_var (pv 0)) da_nil))) (dr_e de_int) (by with_unfolding_all rfl)) (dss_one (ds_ret de_bl)) dss_nil) (dss_cons (ds_set (i := 1) nd rfl (by first | exact Or.inl rfl | exact Or.inr rfl) (de_callH h__law_due hr rfl tk (da_cons (dr_var (pv 0)) da_nil) (by omega))) (dss_cons (ds_if (dt_w (dw_or (dt_cmp (op_ne2 c) o_ne (dr_e (de_callH h__law_told hr rfl tk (da_cons (dr_var (pv 0)) da_nil) (by omega))) (dr_var (pv 1)) (by with_unfolding_all rfl)) (dw_or1 (dt_cmp (op_ne2 c) o_ne (dr_e (de_callH h__law_told hr rfl tk (da_cons (dr_var (pv 0)) da_nil) (by omega))) (dr_var (pv 1)) (by with_unfolding_all rfl))))) (dss_one (ds_ret de_bl)) dss_nil) (dss_one (ds_ret (de_or (de_cmp (op_ne2 c) o_ne (dr_e (de_ix c (dr_var (pv 1)) (dr_e de_int))) (dr_e de_str) (by with_unfolding_all rfl)) (de_one (de_cmp (op_eq2 c) o_eq (dr_e (de_callH h_show_rules hr rfl tk (da_cons (dr_e (de_ix c (dr_var (pv 1)) (dr_e de_int))) da_nil) (by omega))) (dr_var (pv 0)) (by with_unfolding_all rfl)))))))))
theorem has__law_right {P : Program} {w : World} {K : PySem.W.Frag} {mg : Str → Option Value} {base : Heap} {f : Addr} {fd : FuncData} (D : FnP K "_law_right" S__law_right f fd) (g : mg "_law_right" = some (.ref f)) (h__law_due : Has P w K mg base 4 "_law_due" [false] F__law_due) (h__law_told : Has P w K mg base 7 "_law_told" [false] F__law_told) (h_show_rules : Has P w K mg base 7 "show_rules" [false] F_show_rules) (n_len : mg "len" = none) : Has P w K mg base 8 "_law_right" [false] F__law_right :=
  has_of D (fn__law_right D h__law_due h__law_told h_show_rules n_len) g (fun _ _ _ _ _ _ us hl => match us, hl with | [_], _ => rfl)
/-! law -/
abbrev N_law : List Str := ["_law_script", "_law_fixed", "_law_k", "_law_purse_here", "_law_rules_here", "_law_text", "_law_turn", "_law_spoilt", "_law_rule_here"]
theorem sc_law : FnScope N_law ["_law_script"] (defScope S_law) := ⟨rfl, rfl, rfl, by decide +kernel, rfl, by decide +kernel, by decide +kernel⟩
def m_law : SM := (sSeq (sSet 1 (eLst (lCons (eC (.str "\n")) (lCons (eC (.str " ")) (lCons (eC (.str "song 5\n")) (lCons (eC (.str "\nsong 5")) (lCons (eC (.str "song  5")) (lCons (eC (.str " song 5")) (lCons (eC (.str "song 5 ")) (lCons (eC (.str "song")) (lCons (eC (.str "song 05")) lNil))))))))))) (sSeq (sSet 1 (eOp2 catD (rVar 1) (rOf (eLst (lCons (eC (.str "song 100000")) (lCons (eC (.str "Song 5")) (lCons (eC (.str "song 1_0")) (lCons (eC (.str "song +5")) (lCons (eC (.str "song -0")) (lCons (eC (.str "most a 1_0 5")) (lCons (eC (.str "never a 0 0_1 5")) lNil))))))))))) (sSeq (sSet 1 (eOp2 catD (rVar 1) (rOf (eLst (lCons (eC (.str "fresh 5\nsong 1\nfresh 5")) (lCons (eC (.str "wheel any\nwheel any")) (lCons (eC (.str "wheel")) lNil))))))) (sSeq (sSet 1 (eOp2 catD (rVar 1) (rOf (eLst (lCons (eC (.str "wheel any fresh song wheel never most")) lNil))))) (sSeq (sSet 1 (eOp2 catD (rVar 1) (rOf (eLst (lCons (eC (.str "wheel a b c d e f g h")) (lCons (eC (.str "wheel a b c d e f g h i")) (lCons (eC (.str "behind any a")) lNil))))))) (sSeq (sSet 1 (eOp2 catD (rVar 1) (rOf (eLst (lCons (eC (.str "behind song never")) (lCons (eC (.str "never a 10 0 24")) lNil)))))) (sSeq (sSet 1 (eOp2 catD (rVar 1) (rOf (eLst (lCons (eC (.str "never a 0 24 24")) (lCons (eC (.str "never a 7 0 24")) (lCons (eC (.str "never a 0123456 23 24")) (lCons (eC (.str "never fresh 0 0 24")) lNil)))))))) (sSeq (sSet 1 (eOp2 catD (rVar 1) (rOf (eLst (lCons (eC (.str "most a 0 5")) (lCons (eC (.str "most a 99 0")) lNil)))))) (sSeq (sSet 1 (eOp2 catD (rVar 1) (rOf (eLst (lCons (eJoin (eC (.str "\n")) (eOp2 repD (rOf (eLst (lCons (eC (.str "song 5")) lNil))) (rOf (eC (.int 12))))) (lCons (eJoin (eC (.str "\n")) (eOp2 repD (rOf (eLst (lCons (eC (.str "song 5")) lNil))) (rOf (eC (.int 13))))) lNil)))))) (sSeq (sSet 1 (eOp2 catD (rVar 1) (rOf (eLst (lCons (eJoin (eC (.str "\n")) (eOp2 catD (rOf (eOp2 repD (rOf (eLst (lCons (eC (.str "song 5")) lNil))) (rOf (eC (.int 13))))) (rOf (eLst (lCons (eC (.str "x")) lNil))))) (lCons (eC (.str "any 5")) (lCons (eC (.str "x")) lNil))))))) (sSeq (sIf (tNotM (tOfE (eCallB allD2 (aCons (rOf (eComp (iVal (eVar 1)) (gNm 5) tYesM (eCall [false] false F__law_right (aCons (rVar 5) aNil)) [5])) aNil)))) (sRet (eC (.bl false))) sNil) (sSeq (sFor (iRange1 (eCallB max2D (aCons (rOf (eC (.int 2))) (aCons (rOf (eCallB min2D (aCons (rOf (eC (.int 8))) (aCons (rOf (eCallB lenD (aCons (rVar 0) aNil))) aNil)))) aNil)))) (gNm 2) (sSeq (sSetO 3 (eCall [false] true F__law_purse (aCons (rOf (eCall [false, false] false F__law_cell (aCons (rVar 0) (aCons (rVar 2) aNil)))) aNil))) (sSeq (sSet 4 (eCall [true, false] false F__law_rules (aCons (rVar 3) (aCons (rOf (eOp2 ixD (rOf (eLst (lCons (eC (.int 0)) (lCons (eC (.int 1)) (lCons (eC (.int 2)) (lCons (eC (.int 3)) (lCons (eC (.int 4)) (lCons (eOp2 ixD (rOf (eLst (lCons (eC (.int 5)) (lCons (eC (.int 12)) lNil)))) (rOf (eCallB intD (aCons (rOf (eOp2 eqO (rVar 2) (rOf (eC (.int 0))))) aNil)))) (lCons (eOp2 ixD (rOf (eLst (lCons (eC (.int 4)) (lCons (eC (.int 13)) lNil)))) (rOf (eCallB intD (aCons (rOf (eOp2 eqO (rVar 2) (rOf (eC (.int 0))))) aNil)))) (lCons (eC (.int 5)) lNil)))))))))) (rOf (eCall [true, false] false F__law_pick (aCons (rVar 3) (aCons (rOf (eC (.int 8))) aNil)))))) aNil)))) (sSeq (sSet 5 (eJoin (eC (.str "\n")) (eComp (iVal (eVar 4)) (gNm 8) tYesM (eCall [false] false F__law_row (aCons (rVar 8) aNil)) [8]))) (sSeq (sIf (tNotM (tOfE (eCall [false] false F__law_right (aCons (rVar 5) aNil)))) (sRet (eC (.bl false))) sNil) (sFor (iRange1 (eC (.int 3))) (gNm 6) (sSeq (sSet 7 (eCall [true, false] false F__law_amiss (aCons (rVar 3) (aCons (rVar 5) aNil)))) (sIf (tOrM (tNotM (tOfE (eCall [false] false F__law_right (aCons (rVar 7) aNil)))) (tNotM (tOfE (eCall [false] false F__law_right (aCons (rOf (eCall [true, false] false F__law_amiss (aCons (rVar 3) (aCons (rVar 7) aNil)))) aNil))))) (sRet (eC (.bl false))) sNil)))))))) (sRet (eC (.bl true)))))))))))))))
def F_law : List D → FRes := runF [false] 9 m_law
theorem fn_law {P : Program} {w : World} {K : PySem.W.Frag} {mg : Str → Option Value} {base : Heap} {f : Addr} {fd : FuncData} (D : FnP K "law" S_law f fd)  (h__law_right : Has P w K mg base 8 "_law_right" [false] F__law_right) (h__law_cell : Has P w K mg base 1 "_law_cell" [false, false] F__law_cell) (h__law_purse : Has P w K mg base 1 "_law_purse" [false] F__law_purse) (h__law_pick : Has P w K mg base 1 "_law_pick" [true, false] F__law_pick) (h__law_rules : Has P w K mg base 5 "_law_rules" [true, false] F__law_rules) (h__law_row : Has P w K mg base 1 "_law_row" [false] F__law_row) (h__law_amiss : Has P w K mg base 3 "_law_amiss" [true, false] F__law_amiss) (n_all : mg "all" = none) (n_range : mg "range" = none) (n_len : mg "len" = none) (n_min : mg "min" = none) (n_max : mg "max" = none) (n_int : mg "int" = none) : FnOk P w K mg base (L2.CX P w) 9 f fd ["_law_script"] (spF K mg [false] F_law) := by
  refine fn_defD (k := 8) D sc_law rfl fun cdv A outer s H E hr => ?_
  have c := cd_of (X := cxOf (L2.CX P w) P w K mg base N_law "law" (defScope S_law) f cdv A outer s H E) hr
  have tk := takes_of (X := cxOf (L2.CX P w) P w K mg base N_law "law" (defScope S_law) f cdv A outer s H E) (E := E) rfl rfl rfl rfl
  have nd := sc_law.nd
  exact (dss_cons (ds_set (i := 1) nd rfl (by first | exact Or.inl rfl | exact Or.inr rfl) (de_f (df_lst (dl_cons de_str (dl_cons de_str (dl_cons de_str (dl_cons de_str (dl_cons de_str (dl_cons de_str (dl_cons de_str (dl_cons de_str (dl_cons de_str dl_nil)))))))))))) (dss_cons (ds_set (i := 1) nd rfl (by first | exact Or.inl rfl | exact Or.inr rfl) (de_f (df_op op_cat o_cat (dr_var (pv 1)) (dr_e (de_f (df_lst (dl_cons de_str (dl_cons de_str (dl_cons de_str (dl_cons de_str (dl_cons de_str (dl_cons de_str (dl_cons de_str dl_nil))))))))))))) (dss_cons (ds_set (i := 1) nd rfl (by first | exact Or.inl rfl | exact Or.inr rfl) (de_f (df_op op_cat o_cat (dr_var (pv 1)) (dr_e (de_f (df_lst (dl_cons de_str (dl_cons de_str (dl_cons de_str dl_nil))))))))) (dss_cons (ds_set (i := 1) nd rfl (by first | exact Or.inl rfl | exact Or.inr rfl) (de_f (df_op op_cat o_cat (dr_var (pv 1)) (dr_e (de_f (df_lst (dl_cons de_str dl_nil))))))) (dss_cons (ds_set (i := 1) nd rfl (by first | exact Or.inl rfl | exact Or.inr rfl) (de_f (df_op op_cat o_cat (dr_var (pv 1)) (dr_e (de_f (df_lst (dl_cons de_str (dl_cons de_str (dl_cons de_str dl_nil))))))))) (dss_cons (ds_set (i := 1) nd rfl (by first | exact Or.inl rfl | exact Or.inr rfl) (de_f (df_op op_cat o_cat (dr_var (pv 1)) (dr_e (de_f (df_lst (dl_cons de_str (dl_cons de_str dl_nil)))))))) (dss_cons (ds_set (i := 1) nd rfl (by first | exact Or.inl rfl | exact Or.inr rfl) (de_f (df_op op_cat o_cat (dr_var (pv 1)) (dr_e (de_f (df_lst (dl_cons de_str (dl_cons de_str (dl_cons de_str (dl_cons de_str dl_nil)))))))))) (dss_cons (ds_set (i := 1) nd rfl (by first | exact Or.inl rfl | exact Or.inr rfl) (de_f (df_op op_cat o_cat (dr_var (pv 1)) (dr_e (de_f (df_lst (dl_cons de_str (dl_cons de_str dl_nil)))))))) (dss_cons (ds_set (i := 1) nd rfl (by first | exact Or.inl rfl | exact Or.inr rfl) (de_f (df_op op_cat o_cat (dr_var (pv 1)) (dr_e (de_f (df_lst (dl_cons (de_join de_str (de_f (df_op op_rep o_rep (dr_e (de_f (df_lst (dl_cons de_str dl_nil)))) (dr_e de_int)))) (dl_cons (de_join de_str (de_f (df_op op_rep o_rep (dr_e (de_f (df_lst (dl_cons de_str dl_nil)))) (dr_e de_int)))) dl_nil)))))))) (dss_cons (ds_set (i := 1) nd rfl (by first | exact Or.inl rfl | exact Or.inr rfl) (de_f (df_op op_cat o_cat (dr_var (pv 1)) (dr_e (de_f (df_lst (dl_cons (de_join de_str (de_f (df_op op_cat o_cat (dr_e (de_f (df_op op_rep o_rep (dr_e (de_f (df_lst (dl_cons de_str dl_nil)))) (dr_e de_int)))) (dr_e (de_f (df_lst (dl_cons de_str dl_nil))))))) (dl_cons de_str (dl_cons de_str dl_nil))))))))) (dss_cons (ds_if (dt_not (dt_e (de_callB (cr_all c.calm) f_all rfl n_all bt_all (da_cons (dr_e (de_f (df_comp c nd (di_val (de_var (pv 1))) (blkOk_by (N := N_law) (sc := defScope S_law) (own := [("_law_text", 5)]) (by decide +kernel)) (fun _ _ _ _ _ => (dg_name (i := 5) nd rfl (by first | exact Or.inl rfl | exact Or.inr rfl))) (fun _ _ _ _ _ => dts_nil) (fun _ _ _ _ _ => (de_callH h__law_right hr rfl takes0 (da_cons (dr_var (pv 5)) da_nil) (by omega)))))) da_nil)))) (dss_one (ds_ret de_bl)) dss_nil) (dss_cons (ds_for c (passes_of rfl) (di_range1 rfl n_range (de_callB (call_max2 c.calm) f_max2 rfl n_max bt_max (da_cons (dr_e de_int) (da_cons (dr_e (de_callB (call_min2 c.calm) f_min2 rfl n_min bt_min (da_cons (dr_e de_int) (da_cons (dr_e (de_callB call_lenA f_len rfl n_len bt_len (da_cons (dr_var (pv 0)) da_nil))) da_nil)))) da_nil)))) (dg_name (i := 2) nd rfl (by first | exact Or.inl rfl | exact Or.inr rfl)) (dss_cons (ds_setO (i := 3) nd rfl (by first | exact Or.inl rfl | exact Or.inr rfl) (df_callH h__law_purse hr rfl tk (da_cons (dr_e (de_callH h__law_cell hr rfl tk (da_cons (dr_var (pv 0)) (da_cons (dr_var (pv 2)) da_nil)) (by omega))) da_nil) (by omega))) (dss_cons (ds_set (i := 4) nd rfl (by first | exact Or.inl rfl | exact Or.inr rfl) (de_callH h__law_rules hr rfl tk (da_cons (dr_var (pv 3)) (da_cons (dr_e (de_ix c (dr_e (de_f (df_lst (dl_cons de_int (dl_cons de_int (dl_cons de_int (dl_cons de_int (dl_cons de_int (dl_cons (de_ix c (dr_e (de_f (df_lst (dl_cons de_int (dl_cons de_int dl_nil))))) (dr_e (de_callT call_int1 f_int rfl n_int bt_int (da_cons (dr_e (de_cmp (op_eq2 c) o_eq (dr_var (pv 2)) (dr_e de_int) (by with_unfolding_all rfl))) da_nil)))) (dl_cons (de_ix c (dr_e (de_f (df_lst (dl_cons de_int (dl_cons de_int dl_nil))))) (dr_e (de_callT call_int1 f_int rfl n_int bt_int (da_cons (dr_e (de_cmp (op_eq2 c) o_eq (dr_var (pv 2)) (dr_e de_int) (by with_unfolding_all rfl))) da_nil)))) (dl_cons de_int dl_nil))))))))))) (dr_e (de_callH h__law_pick hr rfl tk (da_cons (dr_var (pv 3)) (da_cons (dr_e de_int) da_nil)) (by omega))))) da_nil)) (by omega))) (dss_cons (ds_set (i := 5) nd rfl (by first | exact Or.inl rfl | exact Or.inr rfl) (de_join de_str (de_f (df_comp c nd (di_val (de_var (pv 4))) (blkOk_by (N := N_law) (sc := defScope S_law) (own := [("_law_rule_here", 8)]) (by decide +kernel)) (fun _ _ _ _ _ => (dg_name (i := 8) nd rfl (by first | exact Or.inl rfl | exact Or.inr rfl))) (fun _ _ _ _ _ => dts_nil) (fun _ _ _ _ _ => (de_callH h__law_row hr rfl takes0 (da_cons (dr_var (pv 8)) da_nil) (by omega))))))) (dss_cons (ds_if (dt_not (dt_e (de_callH h__law_right hr rfl tk (da_cons (dr_var (pv 5)) da_nil) (by omega)))) (dss_one (ds_ret de_bl)) dss_nil) (dss_one (ds_for c (passes_of rfl) (di_range1 rfl n_range de_int) (dg_name (i := 6) nd rfl (by first | exact Or.inl rfl | exact Or.inr rfl)) (dss_cons (ds_set (i := 7) nd rfl (by first | exact Or.inl rfl | exact Or.inr rfl) (de_callH h__law_amiss hr rfl tk (da_cons (dr_var (pv 3)) (da_cons (dr_var (pv 5)) da_nil)) (by omega))) (dss_one (ds_if (dt_w (dw_or (dt_not (dt_e (de_callH h__law_right hr rfl tk (da_cons (dr_var (pv 7)) da_nil) (by omega)))) (dw_or1 (dt_not (dt_e (de_callH h__law_right hr rfl tk (da_cons (dr_e (de_callH h__law_amiss hr rfl tk (da_cons (dr_var (pv 3)) (da_cons (dr_var (pv 7)) da_nil)) (by omega))) da_nil) (by omega))))))) (dss_one (ds_ret de_bl)) dss_nil)))))))))) (dss_one (ds_ret de_bl))))))))))))))
end NV

set_option Elab.async false
set_option linter.all false
set_option maxRecDepth 100000
set_option maxHeartbeats 4000000
/-! Purse: the drawn numbers, the cells. -/
namespace NV
open PySem PySem.Spec PyProof.Rows L2
def purse (a b c : Int) : D := .lst [.int a, .int b, .int c]
def nextA (a c : Int) : Int := a % 999999937 * (a % 999999937 % 30013 + 20011) + 70001 * (c + 1)
theorem pick_eq (a b c n : Int) (h0 : 0 < n) (h1 : n < 1073741824) : F__law_pick [purse a b c, .int n] =
    if 0 < b then .ok (.int (b % n)) [purse (nextA a c) (b / n) (c + 1)] else .ok (.int (nextA a c % 999999937 / 8 % n)) [purse (nextA a c) b (c + 1)] := by
  have hs : 0 ≤ a % 999999937 ∧ a % 999999937 < 999999937 := ⟨Int.emod_nonneg _ (by decide), Int.emod_lt_of_pos _ (by decide)⟩
  have m1 : mulD (.int (a % 999999937)) (.int (a % 999999937 % 30013 + 20011)) = some (.int (a % 999999937 * (a % 999999937 % 30013 + 20011))) := mulD_int (.inl (by omega))
  have m2 : ∀ c : Int, mulD (.int 70001) (.int c) = some (.int (70001 * c)) := fun c => mulD_int (.inl (by decide))
  have m3 : ∀ a : Int, modD (.int a) (.int 999999937) = some (.int (a % 999999937)) := fun a => modD_int (by decide)
  have m4 : ∀ a : Int, modD (.int a) (.int 30013) = some (.int (a % 30013)) := fun a => modD_int (by decide)
  have m5 : ∀ a : Int, modD (.int a) (.int n) = some (.int (a % n)) := fun a => modD_int h0
  have m6 : ∀ a : Int, fdivD (.int a) (.int n) = some (.int (a / n)) := fun a => fdivD_int h0 h1
  have m7 : ∀ a : Int, fdivD (.int a) (.int 8) = some (.int (a / 8)) := fun a => fdivD_int (by decide) (by decide)
  by_cases hb : 0 < b
  · simp [F__law_pick, m__law_pick, purse, nextA, sSetIx, ixD, L2.atI, ixN, ownSet, m1, m2, m3, m4, m5, m6, m7, hb]
  · simp [F__law_pick, m__law_pick, purse, nextA, sSetIx, ixD, L2.atI, ixN, ownSet, m1, m2, m3, m4, m5, m6, m7, hb]
theorem pick_ok (a b c n : Int) (h0 : 0 < n) (h1 : n < 1073741824) : ∃ a' b' c' r, F__law_pick [purse a b c, .int n] = .ok (.int r) [purse a' b' c'] ∧ 0 ≤ r ∧ r < n := by
  rw [pick_eq a b c n h0 h1]
  split
  · exact ⟨_, _, _, _, rfl, Int.emod_nonneg _ (by omega), Int.emod_lt_of_pos _ h0⟩
  · exact ⟨_, _, _, _, rfl, Int.emod_nonneg _ (by omega), Int.emod_lt_of_pos _ h0⟩
/-- the purse's three numbers -/
structure Pu where
  a : Int
  b : Int
  c : Int
def Pu.d (s : Pu) : D := .lst [.int s.a, .int s.b, .int s.c]
theorem pick_pu (s : Pu) (n : Int) (h0 : 0 < n) (h1 : n < 1073741824) : ∃ (s' : Pu) (r : Int), F__law_pick [s.d, .int n] = .ok (.int r) [s'.d] ∧ 0 ≤ r ∧ r < n := by
  obtain ⟨a, b, c, r, h, h2, h3⟩ := pick_ok s.a s.b s.c n h0 h1
  exact ⟨⟨a, b, c⟩, r, h, h2, h3⟩
/-- the call of it, at slot 0 -/
theorem pick_call (s : Pu) (ρ : Env) (n : Int) (h0 : 0 < n) (h1 : n < 1073741824) : ∃ (s' : Pu) (r : Int), callG [true, false] false F__law_pick [.own 0, .val (.int n)] (.p s.d :: ρ) = .ok (.int r) (.p s'.d :: ρ) ∧ 0 ≤ r ∧ r < n := by
  obtain ⟨s', r, h, h2, h3⟩ := pick_pu s n h0 h1
  exact ⟨s', r, call_own (i := 0) rfl rfl h rfl, h2, h3⟩
theorem cell_ok (ns : List Int) (k : Int) (h0 : 0 ≤ k) (h1 : k < 1000) : ∃ v, F__law_cell [.scr ns, .int k] = .ok (.int v) [] := by
  by_cases hk : k < ns.length
  · have ix : ∃ v, ixD (.scr ns) (.int k) = some (.int v) := by
      have hl : k.toNat < ns.length := by omega
      refine ⟨ns[k.toNat], ?_⟩
      show (L2.atI ns k).map D.int = _
      simp [L2.atI, ixN, h0, hk, List.getElem?_eq_getElem hl]
    obtain ⟨v, ix⟩ := ix
    exact ⟨v, by simp [F__law_cell, m__law_cell, lenD, hk, ix]⟩
  · have m1 : mulD (.int k) (.int k) = some (.int (k * k)) := mulD_int (.inl (by omega))
    have m2 : ∀ j : Int, mulD (.int 5) (.int j) = some (.int (5 * j)) := fun j => mulD_int (.inl (by decide))
    have m3 : ∀ j : Int, mulD (.int 60013) (.int j) = some (.int (60013 * j)) := fun j => mulD_int (.inl (by decide))
    have m4 : ∀ a : Int, modD (.int a) (.int 1000000007) = some (.int (a % 1000000007)) := fun a => modD_int (by decide)
    have m5 : ∀ j : Int, mulD (.int j) (.int 30011) = some (.int (j * 30011)) := fun j => mulD_int (.inr (by decide))
    have sl : slD (.scr ns) none (some 4) = some (.lst ((cutL ns none (some 4)).map D.int)) := rfl
    obtain ⟨ρ', e, st, x, he⟩ := for_inv (g := gNm 3) (body := sSet 2 (eOp2 modD (rOf (eOp2 addD (rOf (eOp2 mulD (rVar 2) (rOf (eC (.int 30011))))) (rVar 3))) (rOf (eC (.int 1000000007))))) (fun ρ => ∃ (st : Int) (x : Slot), ρ = [.v (.scr ns), .v (.int k), .v (.int st), x]) ((cutL ns none (some 4)).map D.int)
      (fun d hd ρ ⟨st, x, hr⟩ => by
        obtain ⟨i, _, rfl⟩ := List.mem_map.mp hd
        subst hr
        exact ⟨_, [.v (.scr ns), .v (.int k), .v (.int ((st * 30011 + i) % 1000000007)), .v (.int i)], rfl, .inl (by simp [m4, m5]), _, _, rfl⟩) [.v (.scr ns), .v (.int k), .v (.int (60013 * (k * k + 5 * k + 3) % 1000000007)), .no] ⟨_, _, rfl⟩
    subst he
    exact ⟨st, by simp [F__law_cell, m__law_cell, lenD, hk, m1, m2, m3, m4, eSl, oNo, oSome, asI, sl, e]⟩
theorem purse_ok (v : Int) : ∃ s : Pu, F__law_purse [.int v] = .okF s.d [] := by
  have m1 : ∀ a : Int, modD (.int a) (.int 999999937) = some (.int (a % 999999937)) := fun a => modD_int (by decide)
  have m2 : ∀ j : Int, mulD (.int j) (.int 7907) = some (.int (j * 7907)) := fun j => mulD_int (.inr (by decide))
  have m3 : powD (.int 10) (.int 18) = some (.int (10 ^ 18)) := by
    show (if CPow 10 18 then _ else none) = _
    rw [if_pos ⟨by decide, by decide, by decide⟩]
    rfl
  by_cases h : (1000000000000000000 : Int) ≤ v
  · exact ⟨⟨v % 999999937 * 7907 + 4409, v, 0⟩, by simp [F__law_purse, m__law_purse, m1, m2, m3, intD, h, ixD, L2.atI, ixN, Pu.d]⟩
  · exact ⟨⟨v % 999999937 * 7907 + 4409, 0, 0⟩, by simp [F__law_purse, m__law_purse, m1, m2, m3, intD, h, ixD, L2.atI, ixN, Pu.d]⟩
end NV

set_option Elab.async false
set_option linter.all false
set_option maxRecDepth 100000
set_option maxHeartbeats 4000000
namespace NV
open PySem PySem.Spec PyProof.Rows L2
def LET : Str := "abcdefghijklmnopqrstuvwxyz"
def signOk (x : Str) : Bool := x.cps.toList.all fun c => inS ⟨#[c]⟩ LET
def nameS (x : Str) : Bool := decide ((1 : Int) ≤ (x.length : Int)) && decide ((x.length : Int) ≤ 8) && signOk x
def nameB : D → Bool
  | .str x => nameS x
  | _ => false
def noExn : D → Bool
  | .exn _ _ => false
  | .dt _ => false
  | .obj _ _ => false
  | _ => true
theorem comp_D {mt : TM} {me : EM} {i : Nat} (e : Slot → Env) (hset : ∀ x y, (e x).set i y = e y) (ds : List D) (f : D → D) (ht : ∀ d ∈ ds, mt (e (.v d)) = .ok true (e (.v d))) (he : ∀ d ∈ ds, me (e (.v d)) = .ok (f d) (e (.v d))) (x : Slot) :
    ∃ y, compL (gNm i) mt me [i] ds [] (e x) = .ok (ds.map f) (e y) := by
  obtain ⟨y, h⟩ := comp_pure e hset (fun _ => true) f ds ht (fun d hd _ => he d hd) [] x
  refine ⟨y, ?_⟩
  rw [h, List.filter_eq_self.mpr fun _ _ => rfl, List.nil_append]
theorem blsOf_map {α : Type} (l : List α) (p : α → Bool) : blsOf (l.map fun a => D.bl (p a)) = some (l.map p) := by
  induction l with
  | nil => rfl
  | cons a l ih =>
    show (blsOf (l.map fun a => D.bl (p a))).map _ = _
    rw [ih]
    rfl
theorem all_map {α : Type} (l : List α) (p : α → Bool) : allD2 [.lst (l.map fun a => D.bl (p a))] = some (.bl (l.all p)) := by
  show (blsOf (l.map fun a => D.bl (p a))).map _ = _
  rw [blsOf_map]
  simp [List.all_map]
theorem in_sign (c : Nat) (z : Str) : inD (.str ⟨#[c]⟩) (.str z) = some (.bl (inS ⟨#[c]⟩ z)) := rfl
theorem is_name_eq (d : D) (hd : noExn d = true) : F_is_name [d] = .ok (.bl (nameB d)) [] := by
  cases d with
  | str x =>
    obtain ⟨y, e⟩ := comp_D (mt := tYesM) (me := eOp2 inD (rVar 1) (rOf (eC G_LETTERS))) (i := 1) (fun s => [.v (.str x), s]) (fun _ _ => rfl) (x.cps.toList.map fun c => D.str ⟨#[c]⟩) (fun d => match d with
      | .str z => .bl (inS z LET)
      | _ => .non) (fun d _ => by simp) (fun d hd => by
        obtain ⟨c, _, rfl⟩ := List.mem_map.mp hd
        simp [G_LETTERS, in_sign]
        rfl) .no
    rw [List.map_map] at e
    have it : itemsD (.str x) = some (x.cps.toList.map fun c => D.str ⟨#[c]⟩) := rfl
    have al : allD2 [.lst (x.cps.toList.map fun c => D.bl (inS ⟨#[c]⟩ LET))] = some (.bl (signOk x)) := all_map x.cps.toList fun c => inS ⟨#[c]⟩ LET
    have e' : compL (gNm 1) tYesM (eOp2 inD (rVar 1) (rOf (eC G_LETTERS))) [1] (x.cps.toList.map fun c => D.str ⟨#[c]⟩) [] [.v (.str x), .no] = .ok (x.cps.toList.map fun c => D.bl (inS ⟨#[c]⟩ LET)) [.v (.str x), y] := e
    by_cases h1 : (1 : Int) ≤ (x.length : Int)
    · by_cases h2 : (x.length : Int) ≤ 8
      · simp [F_is_name, m_is_name, isT, lenD, G_MOST_LETTERS, it, e', al, nameB, nameS, h1, h2, backE, wipeE, keepV]
      · simp [F_is_name, m_is_name, isT, lenD, G_MOST_LETTERS, nameB, nameS, h1, h2]
    · simp [F_is_name, m_is_name, isT, lenD, G_MOST_LETTERS, nameB, nameS, h1]
  | exn _ _ => cases hd
  | dt _ => cases hd
  | obj _ _ => cases hd
  | _ => simp [F_is_name, m_is_name, isT, nameB]
end NV

set_option Elab.async false
set_option linter.all false
set_option maxRecDepth 100000
set_option maxHeartbeats 4000000
namespace NV
open PySem PySem.Spec PyProof.Rows L2
theorem name_call (d : D) (hd : noExn d = true) (ρ : Env) : callG [false] false F_is_name [.val d] ρ = .ok (.bl (nameB d)) ρ := call_val rfl rfl (is_name_eq d hd) (.inl rfl)
theorem eqD_str (x y : Str) : eqD (.str x) (.str y) = decide (x = y) := by
  unfold eqD
  simp only [toPy, PyData.eqv]
  by_cases h : x = y <;> simp [h]
theorem okL_strs (n : Nat) : ∀ l : List Str, okL n (l.map D.str) = true
  | [] => by cases n <;> rfl
  | i :: l => by
    show (okD n (.str i) && okL n (l.map D.str)) = true
    rw [okL_strs n l]
    cases n <;> rfl
theorem any_strs (k : Str) : ∀ l : List Str, anyD (.str k) (l.map D.str) = decide (k ∈ l)
  | [] => rfl
  | i :: l => by
    have ih := any_strs k l
    unfold anyD at ih ⊢
    rw [List.map_cons, List.any_cons, ih, eqD_str]
    by_cases h : i = k
    · subst h; simp
    · have h' : ¬ k = i := fun z => h z.symm
      by_cases h2 : k ∈ l <;> simp [h, h', h2]
theorem in_strs (k : Str) (l : List Str) : inD (.str k) (.tup (l.map D.str)) = some (.bl (decide (k ∈ l))) := by
  show ((if okD 60 (.str k) = true ∧ okL 60 (l.map D.str) = true then some (anyD (.str k) (l.map D.str)) else none).map D.bl) = _
  rw [if_pos ⟨rfl, okL_strs 60 l⟩, any_strs]
  rfl
theorem in_strsL (k : Str) (l : List Str) : inD (.str k) (.lst (l.map D.str)) = some (.bl (decide (k ∈ l))) := by
  show ((if okD 60 (.str k) = true ∧ okL 60 (l.map D.str) = true then some (anyD (.str k) (l.map D.str)) else none).map D.bl) = _
  rw [if_pos ⟨rfl, okL_strs 60 l⟩, any_strs]
  rfl
theorem notIn_strs (k : Str) (l : List Str) : notInD (.str k) (.tup (l.map D.str)) = some (.bl (!decide (k ∈ l))) := by
  show ((if okD 60 (.str k) = true ∧ okL 60 (l.map D.str) = true then some (anyD (.str k) (l.map D.str)) else none).map fun b => D.bl (!b)) = _
  rw [if_pos ⟨rfl, okL_strs 60 l⟩, any_strs]
  rfl
theorem cut_from {α : Type} (xs : List α) (i : Nat) : cutL xs (some (i : Int)) none = xs.drop i := by
  unfold cutL
  rw [HT.sIx_none, HT.sIx_nat]
  by_cases h : i ≤ xs.length
  · rw [Nat.min_eq_left h, List.take_of_length_le (by rw [List.length_drop]; exact Nat.le_refl _)]
  · rw [Nat.min_eq_right (by omega), List.drop_of_length_le (Nat.le_refl _), List.drop_of_length_le (show xs.length ≤ i by omega)]
    simp
theorem ix_tup (xs : List D) (i : Nat) (h : i < xs.length) : ixD (.tup xs) (.int (i : Int)) = some xs[i] := by
  show L2.atI xs (i : Int) = _
  unfold L2.atI ixN
  rw [if_pos (Int.natCast_nonneg i), if_pos (by omega)]
  simp [List.getElem?_eq_getElem h]
theorem ix_lst (xs : List D) (i : Nat) (h : i < xs.length) : ixD (.lst xs) (.int (i : Int)) = some xs[i] := by
  show L2.atI xs (i : Int) = _
  unfold L2.atI ixN
  rw [if_pos (Int.natCast_nonneg i), if_pos (by omega)]
  simp [List.getElem?_eq_getElem h]
theorem rng_nat {n : Nat} (h : n ≤ 16777216) : rng1 (.int (n : Int)) = some ((List.range n).map fun i => D.int ((i : Nat) : Int)) := by
  show (if (n : Int) ≤ 16777216 ∧ -(2 ^ 62 : Int) ≤ n then some (rngD 0 (n : Int).toNat) else none) = _
  rw [if_pos ⟨by omega, by omega⟩]
  unfold rngD
  simp
/-- a comprehension over 0 .. n - 1 -/
theorem comp_rng {mt : TM} {me : EM} {i : Nat} (e : Slot → Env) (hset : ∀ x y, (e x).set i y = e y) (n : Nat) (f : Nat → D) (ht : ∀ k, k < n → mt (e (.v (.int (k : Int)))) = .ok true (e (.v (.int (k : Int))))) (he : ∀ k, k < n → me (e (.v (.int (k : Int)))) = .ok (f k) (e (.v (.int (k : Int))))) (x : Slot) :
    ∃ y, compL (gNm i) mt me [i] ((List.range n).map fun i => D.int ((i : Nat) : Int)) [] (e x) = .ok ((List.range n).map f) (e y) := by
  obtain ⟨y, h⟩ := comp_D (mt := mt) (me := me) e hset ((List.range n).map fun i => D.int ((i : Nat) : Int)) (fun d => f (toI d).toNat) (fun d hd => by
    obtain ⟨k, hk, rfl⟩ := List.mem_map.mp hd
    exact ht k (List.mem_range.mp hk)) (fun d hd => by
    obtain ⟨k, hk, rfl⟩ := List.mem_map.mp hd
    exact he k (List.mem_range.mp hk)) x
  refine ⟨y, ?_⟩
  rw [h, List.map_map]
  have e2 : ((fun d => f (toI d).toNat) ∘ fun (i : Nat) => D.int ((i : Nat) : Int)) = f := by
    funext k
    simp [toI]
  rw [e2]
theorem whole_call (d : D) (hd : noExn d = true) (ρ : Env) : callG [false] false F_is_whole [.val d] ρ = .ok (.bl (match d with | .int _ => true | _ => false)) ρ := by
  refine call_val rfl rfl ?_ (.inl rfl)
  cases d <;> first | (simp [F_is_whole, m_is_whole, isT]; done) | cases hd
def kindB (d : D) : Bool := nameB d && (match d with
  | .str x => !decide (x = "any") && !decide (x = "fresh")
  | _ => false)
theorem kind_call (d : D) (hd : noExn d = true) (ρ : Env) : callG [false] false F_is_kind [.val d] ρ = .ok (.bl (kindB d)) ρ := by
  refine call_val rfl rfl ?_ (.inl rfl)
  cases h : nameB d with
  | false => simp [F_is_kind, m_is_kind, name_call d hd, h, kindB]
  | true =>
    cases d with
    | str x =>
      have hw : notInD (.str x) G_WIDE = some (.bl (!decide (x ∈ (["any", "fresh"] : List Str)))) := notIn_strs x ["any", "fresh"]
      simp [F_is_kind, m_is_kind, name_call (.str x) hd, h, kindB, hw]
    | _ => cases h
end NV

set_option Elab.async false
set_option linter.all false
set_option maxRecDepth 100000
set_option maxHeartbeats 4000000
namespace NV
open PySem PySem.Spec PyProof.Rows L2
def betB (lo hi : Int) : D → Bool
  | .int i => decide (lo ≤ i) && decide (i ≤ hi)
  | _ => false
theorem between_call (d : D) (lo hi : Int) (hd : noExn d = true) (ρ : Env) : callG [false, false, false] false F_is_between [.val d, .val (.int lo), .val (.int hi)] ρ = .ok (.bl (betB lo hi d)) ρ := by
  refine call_val rfl rfl ?_ (.inl rfl)
  cases d with
  | int i => by_cases h1 : lo ≤ i <;> by_cases h2 : i ≤ hi <;> simp [F_is_between, m_is_between, whole_call (.int i) rfl, betB, h1, h2]
  | exn _ _ => cases hd
  | dt _ => cases hd
  | obj _ _ => cases hd
  | _ => simp [F_is_between, m_is_between, whole_call _ hd, betB]
theorem eqO_ss (x y : Str) : eqO (.str x) (.str y) = some (.bl (decide (x = y))) := by
  show (if okD 60 (.str x) = true ∧ okD 60 (.str y) = true then some (D.bl (eqD (.str x) (.str y))) else none) = _
  rw [if_pos ⟨rfl, rfl⟩, eqD_str]
theorem neO_ss (x y : Str) : neO (.str x) (.str y) = some (.bl (!decide (x = y))) := by
  show (if okD 60 (.str x) = true ∧ okD 60 (.str y) = true then some (D.bl (!eqD (.str x) (.str y))) else none) = _
  rw [if_pos ⟨rfl, rfl⟩, eqD_str]
def okTup : D → Bool
  | .tup xs => xs.all noExn && decide (xs.length < 16000)
  | d => noExn d
theorem okTup_noExn {d : D} (h : okTup d = true) : noExn d = true := by
  cases d <;> first | rfl | exact h
/-! ### words -/
def wordsB : D → Bool
  | .tup xs => decide ((1 : Int) ≤ (xs.length : Int)) && (decide ((xs.length : Int) ≤ 8) && xs.all nameB)
  | _ => false
theorem word_eq (d : D) : (kindB d || (match d with
  | .str x => decide (x ∈ (["any", "fresh"] : List Str))
  | _ => false)) = nameB d := by
  cases d with
  | str x =>
    by_cases h1 : x = "any"
    · subst h1; decide +kernel
    · by_cases h2 : x = "fresh"
      · subst h2; decide +kernel
      · simp [kindB, h1, h2]
  | _ => rfl
theorem are_words_eq (d : D) (hd : okTup d = true) : F_are_words [d] = .ok (.bl (wordsB d)) [] := by
  cases d with
  | tup xs =>
    have hd' := hd
    unfold okTup at hd'
    rw [Bool.and_eq_true] at hd'
    obtain ⟨y, e⟩ := comp_D (mt := tYesM) (me := eOr (eCall [false] false F_is_kind (aCons (rVar 1) aNil)) (eAnd (eIsT .str (rVar 1)) (eOp2 inD (rVar 1) (rOf (eC G_WIDE))))) (i := 1) (fun s => [.v (.tup xs), s]) (fun _ _ => rfl) xs (fun d => .bl (nameB d)) (fun d _ => by simp) (fun d hd => by
      have k := kind_call d (List.all_eq_true.mp hd'.1 d hd)
      have w := word_eq d
      cases hk : kindB d with
      | true =>
        rw [hk, Bool.true_or] at w
        simp [k, hk, ← w]
      | false =>
        rw [hk, Bool.false_or] at w
        cases d with
        | str x =>
          have hw : inD (.str x) G_WIDE = some (.bl (decide (x ∈ (["any", "fresh"] : List Str)))) := in_strs x ["any", "fresh"]
          rw [← w]
          simp [k, hk, isT, hw]
        | exn _ _ => exact absurd (List.all_eq_true.mp hd'.1 _ hd) (by simp [noExn])
        | dt _ => exact absurd (List.all_eq_true.mp hd'.1 _ hd) (by simp [noExn])
        | obj _ _ => exact absurd (List.all_eq_true.mp hd'.1 _ hd) (by simp [noExn])
        | _ => rw [← w]; simp [k, hk, isT]) .no
    have al : allD2 [.lst (xs.map fun d => D.bl (nameB d))] = some (.bl (xs.all nameB)) := all_map xs nameB
    by_cases h1 : (1 : Int) ≤ (xs.length : Int)
    · by_cases h2 : (xs.length : Int) ≤ 8
      · simp [F_are_words, m_are_words, isT, lenD, G_MOST_WORDS, h1, h2, e, al, backE, wipeE, keepV, wordsB]
      · simp [F_are_words, m_are_words, isT, lenD, G_MOST_WORDS, h1, h2, wordsB]
    · simp [F_are_words, m_are_words, isT, lenD, G_MOST_WORDS, h1, wordsB]
  | exn _ _ => cases hd
  | dt _ => cases hd
  | obj _ _ => cases hd
  | _ => simp [F_are_words, m_are_words, isT, wordsB]
/-! ### days -/
def daysB : D → Bool
  | .tup xs => !xs.isEmpty && (xs.all (betB 0 6) && decide ((xs.map toI).Pairwise (· < ·)))
  | _ => false
theorem bet_ints {lo hi : Int} : ∀ {xs : List D}, xs.all (betB lo hi) = true → xs = (xs.map toI).map D.int
  | [], _ => rfl
  | d :: xs, h => by
    rw [List.all_cons, Bool.and_eq_true] at h
    rw [List.map_cons, List.map_cons, ← bet_ints h.2]
    cases d with
    | int i => rfl
    | _ => cases h.1
theorem chain_pw : ∀ l : List Int, ((List.range (l.length - 1)).all fun k => decide (l.getD k 0 < l.getD (k + 1) 0)) = decide (l.Pairwise (· < ·)) := by
  intro l
  rw [Bool.eq_iff_iff, List.all_eq_true, decide_eq_true_iff]
  induction l with
  | nil => simp
  | cons a l ih =>
    cases l with
    | nil => simp
    | cons b l =>
      rw [List.pairwise_cons, ← ih]
      constructor
      · intro h
        have hab : a < b := by simpa using h 0 (by simp)
        have t : ∀ k ∈ List.range ((b :: l).length - 1), decide ((b :: l).getD k 0 < (b :: l).getD (k + 1) 0) = true := fun k hk => by
          have := h (k + 1) (by simp at hk ⊢; omega)
          simpa using this
        refine ⟨fun y hy => ?_, t⟩
        have pw := ih.mp t
        rcases List.mem_cons.mp hy with e | hy
        · subst e; exact hab
        · exact Int.lt_trans hab ((List.pairwise_cons.mp pw).1 y hy)
      · rintro ⟨h1, h2⟩ k hk
        cases k with
        | zero => simpa using h1 b List.mem_cons_self
        | succ k =>
          have := h2 k (by simp at hk ⊢; omega)
          simpa using this
theorem sortU_fix (l : List Int) : (l = sortU l) ↔ l.Pairwise (· < ·) :=
  ⟨fun e => e ▸ sortU_sorted l, fun h => lt_unique h (sortU_sorted l) fun k => (sortU_mem l k).symm⟩
end NV

set_option Elab.async false
set_option linter.all false
set_option maxRecDepth 100000
set_option maxHeartbeats 4000000
namespace NV
open PySem PySem.Spec PyProof.Rows L2
theorem eqO_iL (l m : List Int) : eqO (.lst (l.map D.int)) (.lst (m.map D.int)) = some (.bl (decide (l = m))) := by
  show (if okD 60 (.lst (l.map D.int)) = true ∧ okD 60 (.lst (m.map D.int)) = true then some (D.bl (eqD (.lst (l.map D.int)) (.lst (m.map D.int)))) else none) = _
  rw [if_pos ⟨okL_ints 59 l, okL_ints 59 m⟩, eqD_iL]
theorem are_days_eq (d : D) (hd : okTup d = true) : F_are_days [d] = .ok (.bl (daysB d)) [] := by
  cases d with
  | tup xs =>
    have hd' := hd
    unfold okTup at hd'
    rw [Bool.and_eq_true] at hd'
    have few := of_decide_eq_true hd'.2
    have e0 : eqO (.tup xs) (.tup []) = some (.bl xs.isEmpty) := rfl
    cases ne : xs.isEmpty with
    | true => simp [F_are_days, m_are_days, isT, e0, ne, daysB]
    | false =>
    have hlen : 1 ≤ xs.length := by
      cases xs with
      | nil => cases ne
      | cons _ _ => simp
    obtain ⟨y, e⟩ := comp_D (mt := tYesM) (me := eCall [false, false, false] false F_is_between (aCons (rVar 2) (aCons (rOf (eC (.int 0))) (aCons (rOf (eC (.int 6))) aNil)))) (i := 2) (fun s => [.v (.tup xs), .no, s]) (fun _ _ => rfl) xs (fun d => .bl (betB 0 6 d)) (fun d _ => by simp) (fun d hd => by
      simp [between_call d 0 6 (List.all_eq_true.mp hd'.1 d hd)]) .no
    have al : allD2 [.lst (xs.map fun d => D.bl (betB 0 6 d))] = some (.bl (xs.all (betB 0 6))) := all_map xs (betB 0 6)
    cases h3 : xs.all (betB 0 6) with
    | false => simp [F_are_days, m_are_days, isT, e0, ne, e, al, h3, backE, wipeE, keepV, daysB]
    | true =>
      have hs := bet_ints h3
      obtain ⟨l, hl⟩ : ∃ l, l = xs.map toI := ⟨_, rfl⟩
      have hll : l.length = xs.length := by rw [hl, List.length_map]
      rw [← hl] at hs
      have it : ∀ k, k < xs.length → ixD (.tup xs) (.int (k : Int)) = some (.int (l.getD k 0)) := fun k hk => by
        rw [ix_tup xs k hk]
        have hk2 : k < l.length := by omega
        rw [List.getD_eq_getElem?_getD, List.getElem?_eq_getElem hk2, Option.getD_some]
        have : xs[k]? = some (D.int l[k]) := by rw [hs, List.getElem?_map, List.getElem?_eq_getElem hk2]; rfl
        rw [List.getElem?_eq_getElem hk] at this
        exact this
      obtain ⟨y2, e2⟩ := comp_rng (mt := tYesM) (me := eOp2 lt2 (rOf (eOp2 ixD (rVar 0) (rVar 1))) (rOf (eOp2 ixD (rVar 0) (rOf (eOp2 addD (rVar 1) (rOf (eC (.int 1)))))))) (i := 1) (fun s => [.v (.tup xs), s, .no]) (fun _ _ => rfl) (l.length - 1) (fun k => .bl (decide (l.getD k 0 < l.getD (k + 1) 0))) (fun k _ => by simp) (fun k hk => by
        have i1 := it k (by omega)
        have i2 := it (k + 1) (by omega)
        push_cast at i2
        simp only [List.getD_eq_getElem?_getD] at i1 i2 ⊢
        simp [i1, i2]) .no
      have al2 : allD2 [.lst ((List.range (l.length - 1)).map fun k => D.bl (decide (l.getD k 0 < l.getD (k + 1) 0)))] = some (.bl (decide (l.Pairwise (· < ·)))) := by
        rw [all_map, chain_pw]
      simp only [List.getD_eq_getElem?_getD] at al2 e2
      have rg := rng_nat (n := l.length - 1) (by omega)
      have rg' : rng1 (.int ((xs.length : Int) - 1)) = some ((List.range (l.length - 1)).map fun i => D.int ((i : Nat) : Int)) := by
        rw [← rg]
        congr 2
        omega
      simp [F_are_days, m_are_days, isT, lenD, e0, ne, e, al, h3, backE, wipeE, keepV, rg', e2, al2, daysB, ← hl]
  | exn _ _ => cases hd
  | dt _ => cases hd
  | obj _ _ => cases hd
  | _ => simp [F_are_days, m_are_days, isT, daysB]
end NV

set_option Elab.async false
set_option linter.all false
set_option maxRecDepth 100000
set_option maxHeartbeats 4000000
namespace NV
open PySem PySem.Spec PyProof.Rows L2
def okRule : D → Bool
  | .tup xs => xs.all okTup && decide (xs.length < 16000)
  | d => noExn d
theorem days_call (d : D) (hd : okTup d = true) (ρ : Env) : callG [false] false F_are_days [.val d] ρ = .ok (.bl (daysB d)) ρ := call_val rfl rfl (are_days_eq d hd) (.inl rfl)
theorem words_call (d : D) (hd : okTup d = true) (ρ : Env) : callG [false] false F_are_words [.val d] ρ = .ok (.bl (wordsB d)) ρ := call_val rfl rfl (are_words_eq d hd) (.inl rfl)
def ltB : D → D → Bool
  | .int i, .int j => decide (i < j)
  | _, _ => false
def hoursB (a b : D) : Bool := betB 0 23 a && (betB 1 24 b && ltB a b)
theorem hours_call (a b : D) (ha : noExn a = true) (hb : noExn b = true) (ρ : Env) : callG [false, false] false F_are_hours [.val a, .val b] ρ = .ok (.bl (hoursB a b)) ρ := by
  refine call_val rfl rfl ?_ (.inl rfl)
  have c1 := between_call a 0 23 ha
  have c2 := between_call b 1 24 hb
  cases h1 : betB 0 23 a with
  | false => simp [F_are_hours, m_are_hours, c1, h1, hoursB]
  | true =>
    cases h2 : betB 1 24 b with
    | false => simp [F_are_hours, m_are_hours, c1, c2, h1, h2, hoursB]
    | true =>
      cases a with
      | int i =>
        cases b with
        | int j => simp [F_are_hours, m_are_hours, c1, c2, h1, h2, hoursB, ltB]
        | _ => cases h2
      | _ => cases h1
def ruleB : D → Bool
  | .tup (.str h :: ps) =>
    bif decide (h = "song" ∨ h = "singer" ∨ h = "fresh") then (match ps with
      | [a] => betB 0 99999 a
      | _ => false)
    else bif decide (h = "behind") then (match ps with
      | [a, b] => kindB a && kindB b
      | _ => false)
    else bif decide (h = "never") then (match ps with
      | [a, b, c, e] => kindB a && (daysB b && hoursB c e)
      | _ => false)
    else bif decide (h = "most") then (match ps with
      | [a, b, c] => kindB a && (betB 1 99 b && betB 0 99999 c)
      | _ => false)
    else bif decide (h = "wheel") then (match ps with
      | [a] => wordsB a
      | _ => false)
    else false
  | _ => false
theorem ix3 (x a b : D) : ixD (.tup [x, a, b]) (.int 0) = some x ∧ ixD (.tup [x, a, b]) (.int 1) = some a ∧ ixD (.tup [x, a, b]) (.int 2) = some b := ⟨rfl, rfl, rfl⟩
theorem ix0 (x : D) (ps : List D) : ixD (.tup (x :: ps)) (.int 0) = some x := ix_tup (x :: ps) 0 (by simp)
theorem ln_tup (xs : List D) : lenD [.tup xs] = some (.int (xs.length : Int)) := rfl
theorem len_cases (ps : List D) : ps = [] ∨ (∃ a, ps = [a]) ∨ (∃ a b, ps = [a, b]) ∨ (∃ a b c, ps = [a, b, c]) ∨ (∃ a b c e, ps = [a, b, c, e]) ∨ (∃ a b c e f r, ps = a :: b :: c :: e :: f :: r) := by
  rcases ps with _ | ⟨a, _ | ⟨b, _ | ⟨c, _ | ⟨e, _ | ⟨f, r⟩⟩⟩⟩⟩
  · exact .inl rfl
  · exact .inr (.inl ⟨a, rfl⟩)
  · exact .inr (.inr (.inl ⟨a, b, rfl⟩))
  · exact .inr (.inr (.inr (.inl ⟨a, b, c, rfl⟩)))
  · exact .inr (.inr (.inr (.inr (.inl ⟨a, b, c, e, rfl⟩))))
  · exact .inr (.inr (.inr (.inr (.inr ⟨a, b, c, e, f, r, rfl⟩))))
/-- the heads -/
theorem head_cases (h : Str) : (h = "song" ∨ h = "singer" ∨ h = "fresh") ∨ h = "behind" ∨ h = "never" ∨ h = "most" ∨ h = "wheel" ∨ (¬ (h = "song" ∨ h = "singer" ∨ h = "fresh") ∧ ¬ h = "behind" ∧ ¬ h = "never" ∧ ¬ h = "most" ∧ ¬ h = "wheel") := by
  by_cases h1 : (h = "song" ∨ h = "singer" ∨ h = "fresh")
  · exact .inl h1
  by_cases h2 : h = "behind"
  · exact .inr (.inl h2)
  by_cases h3 : h = "never"
  · exact .inr (.inr (.inl h3))
  by_cases h4 : h = "most"
  · exact .inr (.inr (.inr (.inl h4)))
  by_cases h5 : h = "wheel"
  · exact .inr (.inr (.inr (.inr (.inl h5))))
  exact .inr (.inr (.inr (.inr (.inr ⟨h1, h2, h3, h4, h5⟩))))
theorem in3 (h : Str) : inD (.str h) (.tup [.str "song", .str "singer", .str "fresh"]) = some (.bl (decide (h = "song" ∨ h = "singer" ∨ h = "fresh"))) := by
  rw [show ([.str "song", .str "singer", .str "fresh"] : List D) = (["song", "singer", "fresh"] : List Str).map D.str from rfl, in_strs]
  simp
/-- what the text h answers -/
structure Hd (h : Str) (s b n m w : Bool) : Prop where
  s : decide (h = "song" ∨ h = "singer" ∨ h = "fresh") = s
  b : decide (h = "behind") = b
  n : decide (h = "never") = n
  m : decide (h = "most") = m
  w : decide (h = "wheel") = w
theorem heads (h : Str) : Hd h true false false false false ∨ Hd h false true false false false ∨ Hd h false false true false false ∨ Hd h false false false true false ∨ Hd h false false false false true ∨ Hd h false false false false false := by
  rcases head_cases h with (rfl | rfl | rfl) | rfl | rfl | rfl | rfl | ⟨h1, h2, h3, h4, h5⟩
  · exact .inl ⟨by decide, by decide, by decide, by decide, by decide⟩
  · exact .inl ⟨by decide, by decide, by decide, by decide, by decide⟩
  · exact .inl ⟨by decide, by decide, by decide, by decide, by decide⟩
  · exact .inr (.inl ⟨by decide, by decide, by decide, by decide, by decide⟩)
  · exact .inr (.inr (.inl ⟨by decide, by decide, by decide, by decide, by decide⟩))
  · exact .inr (.inr (.inr (.inl ⟨by decide, by decide, by decide, by decide, by decide⟩)))
  · exact .inr (.inr (.inr (.inr (.inl ⟨by decide, by decide, by decide, by decide, by decide⟩))))
  · exact .inr (.inr (.inr (.inr (.inr ⟨decide_eq_false h1, decide_eq_false h2, decide_eq_false h3, decide_eq_false h4, decide_eq_false h5⟩))))
end NV

set_option Elab.async false
set_option linter.all false
set_option maxRecDepth 100000
set_option maxHeartbeats 4000000
namespace NV
open PySem PySem.Spec PyProof.Rows L2
theorem l1 {xs : List D} (h : xs.length = 1) : ∃ a, xs = [a] := by
  match xs, h with
  | [a], _ => exact ⟨a, rfl⟩
theorem l2 {xs : List D} (h : xs.length = 2) : ∃ a b, xs = [a, b] := by
  match xs, h with
  | [a, b], _ => exact ⟨a, b, rfl⟩
theorem l3 {xs : List D} (h : xs.length = 3) : ∃ a b c, xs = [a, b, c] := by
  match xs, h with
  | [a, b, c], _ => exact ⟨a, b, c, rfl⟩
theorem l4 {xs : List D} (h : xs.length = 4) : ∃ a b c d, xs = [a, b, c, d] := by
  match xs, h with
  | [a, b, c, d], _ => exact ⟨a, b, c, d, rfl⟩
theorem is_rule_eq (d : D) (hd : okRule d = true) : F_is_rule [d] = .ok (.bl (ruleB d)) [] := by
  cases d with
  | tup xs =>
    have hd' := hd
    unfold okRule at hd'
    rw [Bool.and_eq_true] at hd'
    have few := of_decide_eq_true hd'.2
    have ok := List.all_eq_true.mp hd'.1
    have ln := ln_tup xs
    cases xs with
    | nil => simp [F_is_rule, m_is_rule, sPar, isT, ln, ruleB]
    | cons x ps =>
      have i0 := ix0 x ps
      by_cases h0 : ps.length = 0
      · have e0 := List.length_eq_zero_iff.mp h0
        subst e0
        have rb : ruleB (.tup [x]) = false := by
          cases x with
          | str h => rcases heads h with q | q | q | q | q | q <;> simp only [ruleB, q.s, q.b, q.n, q.m, q.w, cond_true, cond_false]
          | _ => rfl
        rw [rb]
        simp [F_is_rule, m_is_rule, sPar, isT, ln]
      obtain ⟨n, hn⟩ : ∃ n : Int, n = ((x :: ps).length : Int) := ⟨_, rfl⟩
      have hn' : n = (ps.length : Int) + 1 := by rw [hn]; simp
      have n2 : ¬ n < 2 := by omega
      rw [← hn] at ln
      cases x with
      | str h =>
        have e1 := in3 h
        have e2 := eqO_ss h "behind"
        have e3 := eqO_ss h "never"
        have e4 := eqO_ss h "most"
        have e5 := eqO_ss h "wheel"
        rcases heads h with q | q | q | q | q | q
        all_goals rw [q.s] at e1
        all_goals rw [q.b] at e2
        all_goals rw [q.n] at e3
        all_goals rw [q.m] at e4
        all_goals rw [q.w] at e5
        · by_cases hk : ps.length = 1
          · obtain ⟨a, rfl⟩ := l1 hk
            have hnn : n = 2 := by rw [hn']; simp
            subst hnn
            have oa := ok a (by simp)
            have i1 : ixD (.tup [.str h, a]) (.int 1) = some a := rfl
            have c1 := between_call a 0 99999 (okTup_noExn oa)
            have rb : ruleB (.tup (.str h :: [a])) = betB 0 99999 a := by simp only [ruleB, q.s, q.b, q.n, q.m, q.w, cond_true, cond_false]
            rw [rb]
            simp [F_is_rule, m_is_rule, sPar, isT, ln, i0, n2, e1, e2, e3, e4, e5, i1, c1, G_MOST_SPAN]
          · have hk2 : ¬ n = 2 := by omega
            have rb : ruleB (.tup (.str h :: ps)) = false := by
              simp only [ruleB, q.s, q.b, q.n, q.m, q.w, cond_true, cond_false]
              rcases len_cases ps with rfl | ⟨a, rfl⟩ | ⟨a, b, rfl⟩ | ⟨a, b, c, rfl⟩ | ⟨a, b, c, e, rfl⟩ | ⟨a, b, c, e, f, r, rfl⟩ <;> first | rfl | exact absurd rfl hk
            rw [rb]
            simp [F_is_rule, m_is_rule, sPar, isT, ln, i0, n2, e1, e2, e3, e4, e5, hk2]
        · by_cases hk : ps.length = 2
          · obtain ⟨a, b, rfl⟩ := l2 hk
            have hnn : n = 3 := by rw [hn']; simp
            subst hnn
            have oa := ok a (by simp)
            have ob := ok b (by simp)
            have i1 : ixD (.tup [.str h, a, b]) (.int 1) = some a := rfl
            have i2 : ixD (.tup [.str h, a, b]) (.int 2) = some b := rfl
            have c1 := kind_call a (okTup_noExn oa)
            have c2 := kind_call b (okTup_noExn ob)
            have rb : ruleB (.tup (.str h :: [a, b])) = (kindB a && kindB b) := by simp only [ruleB, q.s, q.b, q.n, q.m, q.w, cond_true, cond_false]
            rw [rb]
            cases h1 : kindB a <;> simp [F_is_rule, m_is_rule, sPar, isT, ln, i0, n2, e1, e2, e3, e4, e5, i1, i2, c1, c2, h1]
          · have hk2 : ¬ n = 3 := by omega
            have rb : ruleB (.tup (.str h :: ps)) = false := by
              simp only [ruleB, q.s, q.b, q.n, q.m, q.w, cond_true, cond_false]
              rcases len_cases ps with rfl | ⟨a, rfl⟩ | ⟨a, b, rfl⟩ | ⟨a, b, c, rfl⟩ | ⟨a, b, c, e, rfl⟩ | ⟨a, b, c, e, f, r, rfl⟩ <;> first | rfl | exact absurd rfl hk
            rw [rb]
            simp [F_is_rule, m_is_rule, sPar, isT, ln, i0, n2, e1, e2, e3, e4, e5, hk2]
        · by_cases hk : ps.length = 4
          · obtain ⟨a, b, c, e, rfl⟩ := l4 hk
            have hnn : n = 5 := by rw [hn']; simp
            subst hnn
            have oa := ok a (by simp)
            have ob := ok b (by simp)
            have oc := ok c (by simp)
            have oe := ok e (by simp)
            have i1 : ixD (.tup [.str h, a, b, c, e]) (.int 1) = some a := rfl
            have i2 : ixD (.tup [.str h, a, b, c, e]) (.int 2) = some b := rfl
            have i3 : ixD (.tup [.str h, a, b, c, e]) (.int 3) = some c := rfl
            have i4 : ixD (.tup [.str h, a, b, c, e]) (.int 4) = some e := rfl
            have c1 := kind_call a (okTup_noExn oa)
            have c2 := days_call b ob
            have c3 := hours_call c e (okTup_noExn oc) (okTup_noExn oe)
            have rb : ruleB (.tup (.str h :: [a, b, c, e])) = (kindB a && (daysB b && hoursB c e)) := by simp only [ruleB, q.s, q.b, q.n, q.m, q.w, cond_true, cond_false]
            rw [rb]
            cases h1 : kindB a <;> cases h2 : daysB b <;> simp [F_is_rule, m_is_rule, sPar, isT, ln, i0, n2, e1, e2, e3, e4, e5, i1, i2, i3, i4, c1, c2, c3, h1, h2]
          · have hk2 : ¬ n = 5 := by omega
            have rb : ruleB (.tup (.str h :: ps)) = false := by
              simp only [ruleB, q.s, q.b, q.n, q.m, q.w, cond_true, cond_false]
              rcases len_cases ps with rfl | ⟨a, rfl⟩ | ⟨a, b, rfl⟩ | ⟨a, b, c, rfl⟩ | ⟨a, b, c, e, rfl⟩ | ⟨a, b, c, e, f, r, rfl⟩ <;> first | rfl | exact absurd rfl hk
            rw [rb]
            simp [F_is_rule, m_is_rule, sPar, isT, ln, i0, n2, e1, e2, e3, e4, e5, hk2]
        · by_cases hk : ps.length = 3
          · obtain ⟨a, b, c, rfl⟩ := l3 hk
            have hnn : n = 4 := by rw [hn']; simp
            subst hnn
            have oa := ok a (by simp)
            have ob := ok b (by simp)
            have oc := ok c (by simp)
            have i1 : ixD (.tup [.str h, a, b, c]) (.int 1) = some a := rfl
            have i2 : ixD (.tup [.str h, a, b, c]) (.int 2) = some b := rfl
            have i3 : ixD (.tup [.str h, a, b, c]) (.int 3) = some c := rfl
            have c1 := kind_call a (okTup_noExn oa)
            have c2 := between_call b 1 99 (okTup_noExn ob)
            have c3 := between_call c 0 99999 (okTup_noExn oc)
            have rb : ruleB (.tup (.str h :: [a, b, c])) = (kindB a && (betB 1 99 b && betB 0 99999 c)) := by simp only [ruleB, q.s, q.b, q.n, q.m, q.w, cond_true, cond_false]
            rw [rb]
            cases h1 : kindB a <;> cases h2 : betB 1 99 b <;> simp [F_is_rule, m_is_rule, sPar, isT, ln, i0, n2, e1, e2, e3, e4, e5, i1, i2, i3, c1, c2, c3, h1, h2, G_MOST_MANY, G_MOST_SPAN]
          · have hk2 : ¬ n = 4 := by omega
            have rb : ruleB (.tup (.str h :: ps)) = false := by
              simp only [ruleB, q.s, q.b, q.n, q.m, q.w, cond_true, cond_false]
              rcases len_cases ps with rfl | ⟨a, rfl⟩ | ⟨a, b, rfl⟩ | ⟨a, b, c, rfl⟩ | ⟨a, b, c, e, rfl⟩ | ⟨a, b, c, e, f, r, rfl⟩ <;> first | rfl | exact absurd rfl hk
            rw [rb]
            simp [F_is_rule, m_is_rule, sPar, isT, ln, i0, n2, e1, e2, e3, e4, e5, hk2]
        · by_cases hk : ps.length = 1
          · obtain ⟨a, rfl⟩ := l1 hk
            have hnn : n = 2 := by rw [hn']; simp
            subst hnn
            have oa := ok a (by simp)
            have i1 : ixD (.tup [.str h, a]) (.int 1) = some a := rfl
            have c1 := words_call a oa
            have rb : ruleB (.tup (.str h :: [a])) = wordsB a := by simp only [ruleB, q.s, q.b, q.n, q.m, q.w, cond_true, cond_false]
            rw [rb]
            simp [F_is_rule, m_is_rule, sPar, isT, ln, i0, n2, e1, e2, e3, e4, e5, i1, c1]
          · have hk2 : ¬ n = 2 := by omega
            have rb : ruleB (.tup (.str h :: ps)) = false := by
              simp only [ruleB, q.s, q.b, q.n, q.m, q.w, cond_true, cond_false]
              rcases len_cases ps with rfl | ⟨a, rfl⟩ | ⟨a, b, rfl⟩ | ⟨a, b, c, rfl⟩ | ⟨a, b, c, e, rfl⟩ | ⟨a, b, c, e, f, r, rfl⟩ <;> first | rfl | exact absurd rfl hk
            rw [rb]
            simp [F_is_rule, m_is_rule, sPar, isT, ln, i0, n2, e1, e2, e3, e4, e5, hk2]
        · have rb : ruleB (.tup (.str h :: ps)) = false := by simp only [ruleB, q.s, q.b, q.n, q.m, q.w, cond_true, cond_false]
          rw [rb]
          simp [F_is_rule, m_is_rule, sPar, isT, ln, i0, n2, e1, e2, e3, e4, e5]
      | exn _ _ => exact absurd (ok _ List.mem_cons_self) (by simp [okTup, noExn])
      | dt _ => exact absurd (ok _ List.mem_cons_self) (by simp [okTup, noExn])
      | obj _ _ => exact absurd (ok _ List.mem_cons_self) (by simp [okTup, noExn])
      | _ => simp [F_is_rule, m_is_rule, sPar, isT, ln, i0, n2, ruleB]
  | exn _ _ => cases hd
  | dt _ => cases hd
  | obj _ _ => cases hd
  | _ => simp [F_is_rule, m_is_rule, sPar, isT, ruleB]
end NV

set_option Elab.async false
set_option linter.all false
set_option maxRecDepth 100000
set_option maxHeartbeats 4000000
namespace NV
open PySem PySem.Spec PyProof.Rows L2
end NV

set_option Elab.async false
set_option linter.all false
set_option maxRecDepth 100000
set_option maxHeartbeats 4000000
namespace NV
open PySem PySem.Spec PyProof.Rows L2
def hdD : D → D
  | .tup (x :: _) => x
  | _ => .non
theorem rule_hd {d : D} (h : ruleB d = true) : ixD d (.int 0) = some (hdD d) ∧ ∃ z : Str, hdD d = .str z := by
  cases d with
  | tup xs =>
    cases xs with
    | nil => cases h
    | cons x ps =>
      refine ⟨ix0 x ps, ?_⟩
      cases x with
      | str z => exact ⟨z, rfl⟩
      | _ => cases h
  | _ => cases h
theorem heads_strs : ∀ {xs : List D}, xs.all ruleB = true → ∃ ss : List Str, xs.map hdD = ss.map D.str
  | [], _ => ⟨[], rfl⟩
  | d :: xs, h => by
    rw [List.all_cons, Bool.and_eq_true] at h
    obtain ⟨ss, e⟩ := heads_strs h.2
    obtain ⟨_, z, hz⟩ := rule_hd h.1
    exact ⟨z :: ss, by rw [List.map_cons, List.map_cons, e, hz]⟩
def cntD (hs : List D) (w : Str) : Int := ((hs.countP fun z => eqD z (.str w) : Nat) : Int)
def rulesB : D → Bool
  | .tup xs => decide ((xs.length : Int) ≤ 12) && (xs.all ruleB && (decide (cntD (xs.map hdD) "fresh" ≤ 1) && decide (cntD (xs.map hdD) "wheel" ≤ 1)))
  | _ => false
def okRules : D → Bool
  | .tup xs => xs.all okRule && decide (xs.length < 16000)
  | d => noExn d
theorem rule_call (d : D) (hd : okRule d = true) (ρ : Env) : callG [false] false F_is_rule [.val d] ρ = .ok (.bl (ruleB d)) ρ := call_val rfl rfl (is_rule_eq d hd) (.inl rfl)
theorem count_strs (ss : List Str) (w : Str) : countD (.lst (ss.map D.str)) (.str w) = some (.int (cntD (ss.map D.str) w)) := by
  show (if okL 60 (ss.map D.str) = true ∧ okD 60 (.str w) = true then _ else _) = _
  rw [if_pos ⟨okL_strs 60 ss, rfl⟩]
  rfl
theorem is_rules_eq (d : D) (hd : okRules d = true) : F_is_rules [d] = .ok (.bl (rulesB d)) [] := by
  cases d with
  | tup xs =>
    have hd' := hd
    unfold okRules at hd'
    rw [Bool.and_eq_true] at hd'
    have few := of_decide_eq_true hd'.2
    have ok := List.all_eq_true.mp hd'.1
    have ln := ln_tup xs
    obtain ⟨y, e⟩ := comp_D (mt := tYesM) (me := eCall [false] false F_is_rule (aCons (rVar 2) aNil)) (i := 2) (fun s => [.v (.tup xs), .no, s, .no]) (fun _ _ => rfl) xs (fun d => .bl (ruleB d)) (fun d _ => by simp) (fun d hd => by simp [rule_call d (ok d hd)]) .no
    have al : allD2 [.lst (xs.map fun d => D.bl (ruleB d))] = some (.bl (xs.all ruleB)) := all_map xs ruleB
    obtain ⟨n, hn⟩ : ∃ n : Int, n = (xs.length : Int) := ⟨_, rfl⟩
    by_cases h1 : n ≤ 12
    · have h1' : ¬ 12 < n := by omega
      cases h3 : xs.all ruleB with
      | false =>
        have rb : rulesB (.tup xs) = false := by simp only [rulesB, h3, Bool.false_and, Bool.and_false]
        rw [← hn] at ln
        rw [rb]
        simp [F_is_rules, m_is_rules, isT, ln, h1', e, al, h3, backE, wipeE, keepV, G_MOST_RULES]
      | true =>
        obtain ⟨ss, hss⟩ := heads_strs h3
        obtain ⟨y2, e2⟩ := comp_D (mt := tYesM) (me := eOp2 ixD (rVar 2) (rOf (eC (.int 0)))) (i := 2) (fun s => [.v (.tup xs), .no, s, .no]) (fun _ _ => rfl) xs hdD (fun d _ => by simp) (fun d hd => by simp [(rule_hd (List.all_eq_true.mp h3 d hd)).1]) .no
        have rb : rulesB (.tup xs) = (decide (cntD (ss.map D.str) "fresh" ≤ 1) && decide (cntD (ss.map D.str) "wheel" ≤ 1)) := by
          simp only [rulesB, h3, hss, ← hn, h1, decide_true, Bool.true_and]
        rw [hss] at e2
        have cs := count_strs ss
        generalize cntD (ss.map D.str) = g at cs rb
        obtain ⟨hs, hhs⟩ : ∃ hs, hs = ss.map D.str := ⟨_, rfl⟩
        rw [← hhs] at cs e2
        obtain ⟨y3, e3⟩ := comp_D (mt := tYesM) (me := eOp2 le2 (rOf (eCount (rVar 1) (rVar 3))) (rOf (eC (.int 1)))) (i := 3) (fun s => [.v (.tup xs), .v (.lst hs), .no, s]) (fun _ _ => rfl) [.str "fresh", .str "wheel"] (fun d => match d with
          | .str w => .bl (decide (g w ≤ 1))
          | _ => .non) (fun d _ => by simp) (fun d hd => by
            simp only [List.mem_cons, List.not_mem_nil, or_false] at hd
            rcases hd with rfl | rfl <;> simp [eCount, isLst, cs]) .no
        have al2 : allD2 [.lst [D.bl (decide (g "fresh" ≤ 1)), D.bl (decide (g "wheel" ≤ 1))]] = some (.bl (decide (g "fresh" ≤ 1) && (decide (g "wheel" ≤ 1) && true))) := rfl
        have it : itemsD G_ONCE = some [.str "fresh", .str "wheel"] := rfl
        rw [← hn] at ln
        rw [rb]
        simp only [List.map_cons, List.map_nil] at e3
        simp [F_is_rules, m_is_rules, isT, ln, h1', e, al, h3, e2, it, e3, al2, backE, wipeE, keepV, G_MOST_RULES]
    · have h1' : 12 < n := by omega
      have rb : rulesB (.tup xs) = false := by simp only [rulesB, ← hn, decide_eq_false h1, Bool.false_and]
      rw [← hn] at ln
      rw [rb]
      simp [F_is_rules, m_is_rules, isT, ln, h1', G_MOST_RULES]
  | exn _ _ => cases hd
  | dt _ => cases hd
  | obj _ _ => cases hd
  | _ => simp [F_is_rules, m_is_rules, isT, rulesB]
end NV

set_option Elab.async false
set_option linter.all false
set_option maxRecDepth 100000
set_option maxHeartbeats 4000000
namespace NV
open PySem PySem.Spec PyProof.Rows L2
mutual
def good : D → Bool
  | .exn _ _ => false
  | .dt _ => false
  | .obj _ _ => false
  | .tup xs => goodL xs && decide (xs.length < 16000)
  | _ => true
def goodL : List D → Bool
  | [] => true
  | d :: ds => good d && goodL ds
end
theorem goodL_all : ∀ xs : List D, goodL xs = xs.all good
  | [] => by rw [goodL]; rfl
  | d :: ds => by rw [goodL, goodL_all ds]; rfl
theorem good_noExn {d : D} (h : good d = true) : noExn d = true := by
  cases d with
  | exn _ _ => rw [good] at h; cases h
  | dt _ => rw [good] at h; cases h
  | obj _ _ => rw [good] at h; cases h
  | _ => rfl
theorem good_tup {xs : List D} : good (.tup xs) = (xs.all good && decide (xs.length < 16000)) := by rw [good, goodL_all]
theorem all_imp {p q : D → Bool} (h : ∀ d, p d = true → q d = true) {xs : List D} (a : xs.all p = true) : xs.all q = true := by
  rw [List.all_eq_true] at a ⊢
  exact fun d hd => h d (a d hd)
theorem good_okTup {d : D} (h : good d = true) : okTup d = true := by
  cases d with
  | tup xs =>
    rw [good_tup, Bool.and_eq_true] at h
    unfold okTup
    rw [Bool.and_eq_true]
    exact ⟨all_imp (fun _ => good_noExn) h.1, h.2⟩
  | exn _ _ => rw [good] at h; cases h
  | dt _ => rw [good] at h; cases h
  | obj _ _ => rw [good] at h; cases h
  | _ => rfl
theorem good_okRule {d : D} (h : good d = true) : okRule d = true := by
  cases d with
  | tup xs =>
    rw [good_tup, Bool.and_eq_true] at h
    unfold okRule
    rw [Bool.and_eq_true]
    exact ⟨all_imp (fun _ => good_okTup) h.1, h.2⟩
  | exn _ _ => rw [good] at h; cases h
  | dt _ => rw [good] at h; cases h
  | obj _ _ => rw [good] at h; cases h
  | _ => rfl
theorem good_okRules {d : D} (h : good d = true) : okRules d = true := by
  cases d with
  | tup xs =>
    rw [good_tup, Bool.and_eq_true] at h
    unfold okRules
    rw [Bool.and_eq_true]
    exact ⟨all_imp (fun _ => good_okRule) h.1, h.2⟩
  | exn _ _ => rw [good] at h; cases h
  | dt _ => rw [good] at h; cases h
  | obj _ _ => rw [good] at h; cases h
  | _ => rfl
/-! ### tools -/
theorem comp_each {S : Type} {mt : TM} {me : EM} {i : Nat} (e : S → Slot → Env) (hset : ∀ s x y, (e s x).set i y = e s y) (P : D → Prop) : ∀ (ds : List D), (∀ s, ∀ d ∈ ds, mt (e s (.v d)) = .ok true (e s (.v d))) → (∀ s, ∀ d ∈ ds, ∃ s' z, me (e s (.v d)) = .ok z (e s' (.v d)) ∧ P z) →
    ∀ (acc : List D) (s : S) (x : Slot), ∃ s' y out, compL (gNm i) mt me [i] ds acc (e s x) = .ok (acc ++ out) (e s' y) ∧ out.length = ds.length ∧ ∀ z ∈ out, P z
  | [], _, _, acc, s, x => ⟨s, x, [], by simp [compL], rfl, fun _ z => by cases z⟩
  | d :: ds, ht, he, acc, s, x => by
    obtain ⟨s1, z, h1, hz⟩ := he s d List.mem_cons_self
    have es : (wipeE (e s x) [i]).set i (.v d) = e s (.v d) := by rw [show wipeE (e s x) [i] = (e s x).set i .no from rfl, hset, hset]
    obtain ⟨s', y, out, e2, hl, hP⟩ := comp_each e hset P ds (fun s d hd => ht s d (List.mem_cons_of_mem _ hd)) (fun s d hd => he s d (List.mem_cons_of_mem _ hd)) (acc ++ [z]) s1 (.v d)
    refine ⟨s', y, z :: out, ?_, by simp [hl], fun w hw => (List.mem_cons.mp hw).elim (fun q => q ▸ hz) (hP w)⟩
    unfold compL
    simp only [gNm_eq, es, ht s d List.mem_cons_self, noexc_ok, bind_ok', if_true, h1]
    rw [e2]
    simp
theorem for_cnt {g : D → Env → Option Env} {body : SM} (I : Nat → Env → Prop) : ∀ (ds : List D) (k : Nat), (∀ j, ∀ d ∈ ds, ∀ ρ, I j ρ → j < k + ds.length → ∃ ρ1 ρ2, g d ρ = some ρ1 ∧ body ρ1 = .nx ρ2 ∧ I (j + 1) ρ2) → ∀ ρ, I k ρ → ∃ ρ', forL g body ds ρ = .nx ρ' ∧ I (k + ds.length) ρ'
  | [], k, _, ρ, h => ⟨ρ, rfl, h⟩
  | d :: ds, k, hb, ρ, h => by
    obtain ⟨ρ1, ρ2, h1, h2, h3⟩ := hb k d List.mem_cons_self ρ h (by simp)
    obtain ⟨ρ', h4, h5⟩ := for_cnt I ds (k + 1) (fun j d hd ρ hi hj => hb j d (List.mem_cons_of_mem _ hd) ρ hi (by simp only [List.length_cons]; omega)) ρ2 h3
    refine ⟨ρ', ?_, by rw [List.length_cons, show k + (ds.length + 1) = k + 1 + ds.length by omega]; exact h5⟩
    unfold forL
    rw [h1]
    simp only [h2]
    exact h4
theorem nodup_len {α : Type} [DecidableEq α] : ∀ (l m : List α), l.Nodup → (∀ x ∈ l, x ∈ m) → l.length ≤ m.length
  | [], _, _, _ => Nat.zero_le _
  | x :: l, m, hn, hs => by
    obtain ⟨h1, h2⟩ := List.nodup_cons.mp hn
    have hx := hs x List.mem_cons_self
    have ih := nodup_len l (m.erase x) h2 fun y hy => (List.mem_erase_of_ne (show y ≠ x from fun e => h1 (e ▸ hy))).mpr (hs y (List.mem_cons_of_mem _ hy))
    rw [List.length_erase_of_mem hx] at ih
    have := List.length_pos_of_mem hx
    rw [List.length_cons]
    omega
theorem ix_pick {L : List D} {r : Int} (h0 : 0 ≤ r) (h1 : r < (L.length : Int)) : ∃ z, ixD (.lst L) (.int r) = some z ∧ z ∈ L := by
  have e := ix_lst L r.toNat (by omega)
  rw [show ((r.toNat : Nat) : Int) = r by omega] at e
  exact ⟨_, e, List.getElem_mem _⟩
theorem cat_ok {a b : List D} (h : a.length + b.length ≤ 16777216) : catD (.lst a) (.lst b) = some (.lst (a ++ b)) := by
  show (if _ ≤ sizeLine then _ else none) = _
  rw [if_pos (by rw [sizeLine_eq]; exact h)]
theorem add_tup {a b : List D} (h : a.length + b.length ≤ 16777216) : addD (.tup a) (.tup b) = some (.tup (a ++ b)) := by
  show (if _ ≤ sizeLine then _ else none) = _
  rw [if_pos (by rw [sizeLine_eq]; exact h)]
theorem add_str {a b : Str} (h : a.length + b.length ≤ 16777216) : addD (.str a) (.str b) = some (.str (a ++ b)) := by
  show (if _ ≤ sizeLine then _ else none) = _
  rw [if_pos (by rw [sizeLine_eq]; exact h)]
/-- small letters, few -/
def lowS (x : Str) : Prop := x.length ≤ 20 ∧ ∀ c ∈ x.cps.toList, 97 ≤ c ∧ c ≤ 122
theorem strOk_by {x : Str} (h : ∀ c ∈ x.cps.toList, c < 1114112) : PySem.PyData.strOk x = true := by
  unfold PySem.PyData.strOk
  rw [Array.all_eq_true_iff_forall_mem]
  intro c hc
  exact decide_eq_true (h c (by simpa using hc))
theorem strGb_by {x : Str} (h1 : x.length ≤ 16777216) (h : ∀ c ∈ x.cps.toList, c < 1114112) : strGb x = true := by
  unfold strGb
  rw [Bool.and_eq_true]
  exact ⟨decide_eq_true (by rw [sizeLine_eq]; exact h1), strOk_by h⟩
end NV

set_option Elab.async false
set_option linter.all false
set_option maxRecDepth 100000
set_option maxHeartbeats 4000000
namespace NV
open PySem PySem.Spec PyProof.Rows L2
theorem foldl_cps (acc : Array Nat) : ∀ ys : List Str, (ys.foldl (fun a p => a ++ (⟨#[]⟩ : Str).cps ++ p.cps) acc).toList = acc.toList ++ (ys.map fun p => p.cps.toList).flatten
  | [] => by simp
  | y :: ys => by
    rw [List.foldl_cons, foldl_cps _ ys]
    simp
theorem join_empty (ys : List Str) : (Txt.join ⟨#[]⟩ ys).cps.toList = (ys.map fun p => p.cps.toList).flatten := by
  show ((ys.drop 1).foldl (fun acc p => acc ++ (⟨#[]⟩ : Str).cps ++ p.cps) (ys.headD Str.empty).cps).toList = _
  cases ys with
  | nil => rfl
  | cons y ys =>
    rw [foldl_cps]
    rfl
/-- one small letter -/
def oneL (d : D) : Prop := ∃ c : Nat, 97 ≤ c ∧ c ≤ 122 ∧ d = .str ⟨#[c]⟩
theorem ones {out : List D} (h : ∀ z ∈ out, oneL z) : ∃ cs : List Nat, (∀ c ∈ cs, 97 ≤ c ∧ c ≤ 122) ∧ out = cs.map fun c => D.str ⟨#[c]⟩ := by
  induction out with
  | nil => exact ⟨[], (fun _ z => by cases z), rfl⟩
  | cons d ds ih =>
    obtain ⟨cs, h1, h2⟩ := ih fun z hz => h z (List.mem_cons_of_mem _ hz)
    obtain ⟨c, c1, c2, rfl⟩ := h d List.mem_cons_self
    refine ⟨c :: cs, fun x hx => ?_, by rw [h2]; rfl⟩
    rcases List.mem_cons.mp hx with e | hx
    · subst e; exact ⟨c1, c2⟩
    · exact h1 x hx
theorem letter_at {j : Int} (h0 : 0 ≤ j) (h1 : j < 26) : ∃ z, ixD (.str "abcdefghijklmnopqrstuvwxyz") (.int j) = some z ∧ oneL z := by
  have hl : (("abcdefghijklmnopqrstuvwxyz" : Str)).cps.toList.length = 26 := by decide
  have al : (("abcdefghijklmnopqrstuvwxyz" : Str)).cps.toList.all (fun c => decide (97 ≤ c) && decide (c ≤ 122)) = true := by decide
  generalize ("abcdefghijklmnopqrstuvwxyz" : Str) = L at hl al ⊢
  have hj : j.toNat < L.cps.toList.length := by omega
  refine ⟨.str ⟨#[L.cps.toList[j.toNat]]⟩, ?_, L.cps.toList[j.toNat], ?_, ?_, rfl⟩
  · show (L2.atI L.cps.toList j).map _ = _
    have : L2.atI L.cps.toList j = some L.cps.toList[j.toNat] := by
      unfold L2.atI ixN
      rw [if_pos h0, if_pos (by omega)]
      show L.cps.toList[j.toNat]? = _
      exact List.getElem?_eq_getElem hj
    rw [this]
    rfl
  · have := List.all_eq_true.mp al _ (List.getElem_mem hj)
    rw [Bool.and_eq_true] at this
    exact of_decide_eq_true this.1
  · have := List.all_eq_true.mp al _ (List.getElem_mem hj)
    rw [Bool.and_eq_true] at this
    exact of_decide_eq_true this.2
end NV

set_option Elab.async false
set_option linter.all false
set_option maxRecDepth 100000
set_option maxHeartbeats 4000000
namespace NV
open PySem PySem.Spec PyProof.Rows L2
theorem strI_ok {i : Int} (h0 : 0 ≤ i) (h1 : i ≤ 100000) : strI [.int i] = some (.str (toString i : Str)) := by
  have hl : i.natAbs.log2 < 1920 := by
    by_cases z : i.natAbs = 0
    · rw [z]; decide
    · exact Nat.lt_of_lt_of_le ((Nat.log2_lt z).mpr (show i.natAbs < 2 ^ 20 by omega)) (by decide)
  show (if _ ∧ _ then _ else _) = _
  rw [if_pos]
  refine ⟨hl, ?_⟩
  unfold strGb
  rw [Bool.and_eq_true]
  refine ⟨decide_eq_true (int_text_fits hl), strOk_by fun c hc => ?_⟩
  have e := PySem.Str.ofString_eq_toList (toString i)
  have hc2 : c ∈ (PySem.Str.ofString (toString i)).cps.toList := hc
  rw [e] at hc2
  have hc3 : c ∈ (toString i).toList.map Char.toNat := by simpa using hc2
  obtain ⟨ch, _, rfl⟩ := List.mem_map.mp hc3
  have := ch.valid
  rcases this with q | q
  · exact Nat.lt_trans q (by decide)
  · exact q.2
/-! ### odd things -/
theorem ix_ints {L : List Int} {r : Int} (h0 : 0 ≤ r) (h1 : r < (L.length : Int)) : ∃ z : Int, ixD (.lst (L.map D.int)) (.int r) = some (.int z) ∧ z ∈ L := by
  obtain ⟨z, e, hz⟩ := ix_pick (L := L.map D.int) h0 (by rw [List.length_map]; exact h1)
  obtain ⟨i, hi, rfl⟩ := List.mem_map.mp hz
  exact ⟨i, e, hi⟩
end NV

set_option Elab.async false
set_option linter.all false
set_option maxRecDepth 100000
set_option maxHeartbeats 4000000
namespace NV
open PySem PySem.Spec PyProof.Rows L2
theorem rep4 (x : D) : repD (.lst [x]) (.int 4) = some (.lst [x, x, x, x]) := by
  show (if -(2 ^ 63 : Int) ≤ 4 ∧ (4 : Int) < 2 ^ 63 ∧ ([x].length * (4 : Int).toNat ≤ sizeLine) then some (D.lst (repL [x] 4)) else none) = _
  rw [if_pos ⟨by decide, by decide, by rw [sizeLine_eq]; simp⟩]
  rfl
theorem number_ok (s : Pu) (lo hi : Int) (h0 : 0 ≤ lo) (h1 : lo < hi) (h2 : hi ≤ 99999) : ∃ (s' : Pu) (i : Int), F__law_number [s.d, .int lo, .int hi] = .ok (.int i) [s'.d] ∧ lo ≤ i ∧ i ≤ hi := by
  obtain ⟨s1, r, e1, r0, r1⟩ := pick_call s [.v (.int lo), .v (.int hi), .v (.lst [.int lo, .int hi, .int (lo + 1), .int (hi - 1)])] (hi - lo + 1) (by omega) (by omega)
  obtain ⟨s2, j, e2, j0, j1⟩ := pick_call s1 [.v (.int lo), .v (.int hi), .v (.lst [.int lo, .int hi, .int (lo + 1), .int (hi - 1)])] 8 (by decide) (by decide)
  obtain ⟨z, ez, hz⟩ := ix_ints (L := [lo, hi, lo + 1, hi - 1, lo + r, lo + r, lo + r, lo + r]) j0 (by simpa using j1)
  have ez' : ixD (.lst [.int lo, .int hi, .int (lo + 1), .int (hi - 1), .int (lo + r), .int (lo + r), .int (lo + r), .int (lo + r)]) (.int j) = some (.int z) := ez
  have r4 := rep4 (.int (lo + r))
  have c1 : catD (.lst [.int lo, .int hi, .int (lo + 1), .int (hi - 1)]) (.lst [.int (lo + r), .int (lo + r), .int (lo + r), .int (lo + r)]) = some (.lst [.int lo, .int hi, .int (lo + 1), .int (hi - 1), .int (lo + r), .int (lo + r), .int (lo + r), .int (lo + r)]) := cat_ok (by simp)
  refine ⟨s2, z, ?_, ?_⟩
  · simp only [F__law_number, m__law_number, runF_eq, slots_p, slots_v, slots_nil]
    simp [e1, r4, c1, e2, ez']
  · simp only [List.mem_cons, List.not_mem_nil, or_false] at hz
    omega
theorem number_call (s : Pu) (ρ : Env) (lo hi : Int) (h0 : 0 ≤ lo) (h1 : lo < hi) (h2 : hi ≤ 99999) : ∃ (s' : Pu) (i : Int), callG [true, false, false] false F__law_number [.own 0, .val (.int lo), .val (.int hi)] (.p s.d :: ρ) = .ok (.int i) (.p s'.d :: ρ) ∧ lo ≤ i ∧ i ≤ hi := by
  obtain ⟨s', i, h, h2⟩ := number_ok s lo hi h0 h1 h2
  exact ⟨s', i, call_own (i := 0) rfl rfl h rfl, h2⟩
end NV

set_option Elab.async false
set_option linter.all false
set_option maxRecDepth 100000
set_option maxHeartbeats 4000000
namespace NV
open PySem PySem.Spec PyProof.Rows L2
/-! texts joined and split -/
def cpL (x : Str) : List Nat := x.cps.toList
theorem cp_inj {a b : Str} (h : cpL a = cpL b) : a = b := Str.ext' (Array.toList_inj.mp h)
def jL (c : Nat) : List (List Nat) → List Nat
  | [] => []
  | [x] => x
  | x :: y :: r => x ++ c :: jL c (y :: r)
theorem cp_append (a b : Str) : cpL (a ++ b) = cpL a ++ cpL b := by
  show (a.cps ++ b.cps).toList = _
  rw [Array.toList_append]
  rfl
theorem join_cp (c : Nat) : ∀ us : List Str, cpL (Str.join ⟨#[c]⟩ us) = jL c (us.map cpL)
  | [] => rfl
  | [x] => rfl
  | x :: y :: r => by
    have ih := join_cp c (y :: r)
    show cpL (x ++ ⟨#[c]⟩ ++ Str.join ⟨#[c]⟩ (y :: r)) = _
    rw [cp_append, cp_append, ih]
    show (cpL x ++ [c]) ++ _ = cpL x ++ c :: jL c ((y :: r).map cpL)
    rw [List.append_assoc]
    rfl
theorem cut_first {c : Nat} : ∀ {x y a b : List Nat}, c ∉ x → c ∉ y → x ++ c :: a = y ++ c :: b → x = y ∧ a = b
  | [], [], a, b, _, _, h => by
    injection h with _ h
    exact ⟨rfl, h⟩
  | [], d :: y, a, b, _, hy, h => by
    injection h with h _
    exact absurd (h ▸ List.mem_cons_self) hy
  | d :: x, [], a, b, hx, _, h => by
    injection h with h _
    exact absurd (h ▸ List.mem_cons_self) hx
  | d :: x, e :: y, a, b, hx, hy, h => by
    injection h with h1 h2
    obtain ⟨p, q⟩ := cut_first (fun z => hx (List.mem_cons_of_mem _ z)) (fun z => hy (List.mem_cons_of_mem _ z)) h2
    exact ⟨by rw [h1, p], q⟩
theorem jL_inj {c : Nat} : ∀ {us ws : List (List Nat)}, us ≠ [] → ws ≠ [] → (∀ u ∈ us, c ∉ u) → (∀ w ∈ ws, c ∉ w) → jL c us = jL c ws → us = ws
  | [], _, h, _, _, _, _ => absurd rfl h
  | _ :: _, [], _, h, _, _, _ => absurd rfl h
  | [x], [y], _, _, _, _, h => by
    have h : x = y := h
    rw [h]
  | [x], y :: z :: r, _, _, hu, _, h => by
    have h : x = y ++ c :: jL c (z :: r) := h
    exact absurd (by rw [h]; simp) (hu x List.mem_cons_self)
  | x :: z :: r, [y], _, _, _, hw, h => by
    have h : x ++ c :: jL c (z :: r) = y := h
    exact absurd (by rw [← h]; simp) (hw y List.mem_cons_self)
  | x :: x' :: r, y :: y' :: s, _, _, hu, hw, h => by
    have h : x ++ c :: jL c (x' :: r) = y ++ c :: jL c (y' :: s) := h
    obtain ⟨h1, h2⟩ := cut_first (hu x List.mem_cons_self) (hw y List.mem_cons_self) h
    rw [h1, jL_inj (by simp) (by simp) (fun u hm => hu u (List.mem_cons_of_mem _ hm)) (fun w hm => hw w (List.mem_cons_of_mem _ hm)) h2]
theorem map_cp_inj : ∀ {us ws : List Str}, us.map cpL = ws.map cpL → us = ws
  | [], [], _ => rfl
  | [], _ :: _, h => by cases h
  | _ :: _, [], h => by cases h
  | u :: us, w :: ws, h => by
    rw [List.map_cons, List.map_cons] at h
    injection h with h1 h2
    rw [cp_inj h1, map_cp_inj h2]
theorem split_join {c : Nat} {ws : List Str} (hn : ws ≠ []) (hw : ∀ w ∈ ws, c ∉ cpL w) : Txt.split (Txt.join ⟨#[c]⟩ ws) ⟨#[c]⟩ = ws := by
  have hj : Txt.join ⟨#[c]⟩ ws = Str.join ⟨#[c]⟩ ws := StrLaws.glued_eq_join _ _
  have h1 := StrLaws.join_split (Txt.join ⟨#[c]⟩ ws) ⟨#[c]⟩
  have h2 := StrLaws.split_free (Txt.join ⟨#[c]⟩ ws) c
  have h3 := split_pos (Txt.join ⟨#[c]⟩ ws) ⟨#[c]⟩
  generalize Txt.split (Txt.join ⟨#[c]⟩ ws) ⟨#[c]⟩ = us at *
  rw [hj] at h1
  refine map_cp_inj (jL_inj (c := c) ?_ ?_ ?_ ?_ ?_)
  · intro e
    rw [List.map_eq_nil_iff] at e
    rw [e] at h3
    simp at h3
  · intro e
    exact hn (List.map_eq_nil_iff.mp e)
  · intro u hu
    obtain ⟨v, hv, rfl⟩ := List.mem_map.mp hu
    exact h2 v hv
  · intro u hu
    obtain ⟨v, hv, rfl⟩ := List.mem_map.mp hu
    exact hw v hv
  · rw [← join_cp, ← join_cp, h1]
/-- plain signs -/
def sm (x : Str) : Prop := ∀ c ∈ cpL x, c < 128
theorem sm_append {a b : Str} (ha : sm a) (hb : sm b) : sm (a ++ b) := fun c hc => by
  rw [cp_append] at hc
  rcases List.mem_append.mp hc with h | h
  · exact ha c h
  · exact hb c h
theorem sm_join {sep : Str} (hs : sm sep) : ∀ {ws : List Str}, (∀ w ∈ ws, sm w) → sm (Str.join sep ws)
  | [], _ => fun c hc => by cases hc
  | [x], h => h x List.mem_cons_self
  | x :: y :: r, h => sm_append (sm_append (h x List.mem_cons_self) hs) (sm_join hs fun w hw => h w (List.mem_cons_of_mem _ hw))
theorem strOk_sm {x : Str} (h : sm x) : PySem.PyData.strOk x = true := by
  rw [PySem.PyData.strOk, ← Array.all_toList, List.all_eq_true]
  intro c hc
  have := h c hc
  simp only [decide_eq_true_eq]
  omega
theorem strGb_sm {x : Str} (h : sm x) (hl : x.length ≤ 16777216) : strGb x = true := by
  unfold strGb
  rw [strOk_sm h, decide_eq_true (by rw [sizeLine_eq]; exact hl)]
  rfl
theorem join_len (sep : Str) (ws : List Str) : (Txt.join sep ws).length ≤ (ws.map (·.length)).sum + ws.length * sep.length := by
  have hj : Txt.join sep ws = Str.join sep ws := StrLaws.glued_eq_join _ _
  rw [hj]
  exact StrLaws.join_length_le sep ws
theorem strsOf_of (l : List Str) : strsOf (l.map D.str) = some l := by
  induction l with
  | nil => rfl
  | cons x l ih => rw [List.map_cons, strsOf, ih]; rfl
theorem joinD_of {sep : Str} {ws : List Str} {d : D} (hd : d = .lst (ws.map D.str) ∨ d = .tup (ws.map D.str)) (hs : sm sep) (hw : ∀ w ∈ ws, sm w) (hl : (ws.map (·.length)).sum + ws.length * sep.length ≤ 16777216) : joinD (.str sep) d = some (.str (Txt.join sep ws)) := by
  have e : seqStrs d = some ws := by
    rcases hd with rfl | rfl
    · exact strsOf_of ws
    · exact strsOf_of ws
  have hj : Txt.join sep ws = Str.join sep ws := StrLaws.glued_eq_join _ _
  have g : strGb (Txt.join sep ws) = true := strGb_sm (by rw [hj]; exact sm_join hs hw) (Nat.le_trans (join_len sep ws) hl)
  unfold joinD
  rw [e]
  simp only [hl, g, and_self, if_true]
theorem le_sum : ∀ (ws : List Str), ∀ w ∈ ws, w.length ≤ (ws.map (·.length)).sum
  | x :: ws, w, h => by
    rw [List.map_cons, List.sum_cons]
    rcases List.mem_cons.mp h with rfl | h
    · omega
    · have := le_sum ws w h
      omega
theorem splitD_of {c : Nat} (hc : c < 128) {ws : List Str} (hn : ws ≠ []) (hf : ∀ w ∈ ws, c ∉ cpL w) (hw : ∀ w ∈ ws, sm w) (hl : (ws.map (·.length)).sum + ws.length ≤ 16777000) : splitD (.str (Txt.join ⟨#[c]⟩ ws)) (.str ⟨#[c]⟩) = some (.lst (ws.map D.str)) := by
  have sp := split_join hn hf
  have jl := join_len ⟨#[c]⟩ ws
  have l1 : (⟨#[c]⟩ : Str).length = 1 := rfl
  rw [l1, Nat.mul_one] at jl
  have each := le_sum ws
  have wl : ws.length ≤ 16777216 := by omega
  show (if ((⟨#[c]⟩ : Str).length == 0) = false ∧ (Txt.join ⟨#[c]⟩ ws).length + 2 ≤ sizeLine ∧ (Txt.split (Txt.join ⟨#[c]⟩ ws) ⟨#[c]⟩).all strGb = true ∧ (Txt.split (Txt.join ⟨#[c]⟩ ws) ⟨#[c]⟩).length ≤ sizeLine then some (D.lst ((Txt.split (Txt.join ⟨#[c]⟩ ws) ⟨#[c]⟩).map D.str)) else none) = _
  rw [sp, if_pos ⟨rfl, by rw [sizeLine_eq]; omega, List.all_eq_true.mpr fun w hm => strGb_sm (hw w hm) (by have := each w hm; omega), by rw [sizeLine_eq]; exact wl⟩]
theorem sp32 : (" " : Str) = ⟨#[32]⟩ := by decide
theorem nl10 : ("\n" : Str) = ⟨#[10]⟩ := by decide
theorem em0 : ("" : Str) = ⟨#[]⟩ := by decide
/-! numbers as texts -/
def numS (n : Int) : Str := toString n
theorem td_len : ∀ (k m : Nat), m < 10 ^ (k + 1) → (Nat.toDigits 10 m).length ≤ k + 1
  | 0, m, h => by
    rw [Nat.toDigits_of_lt_base (by simpa using h)]
    simp
  | k + 1, m, h => by
    by_cases hm : m < 10
    · rw [Nat.toDigits_of_lt_base hm]
      simp
    · have t : Nat.toDigits 10 (m / 10) ++ Nat.toDigits 10 (m % 10) = Nat.toDigits 10 (10 * (m / 10) + m % 10) := Nat.toDigits_append_toDigits (by decide) (by omega) (Nat.mod_lt m (by decide))
      rw [Nat.div_add_mod] at t
      rw [← t, List.length_append, Nat.toDigits_of_lt_base (Nat.mod_lt m (by decide))]
      have := td_len k (m / 10) (by
        rw [Nat.pow_succ] at h
        omega)
      simp only [List.length_cons, List.length_nil]
      omega
theorem td_head (m : Nat) (hm : m ≠ 0) : ∃ d r, Nat.toDigits 10 m = d :: r ∧ d ≠ '0' := by
  induction m using Nat.strongRecOn with
  | _ m ih =>
    by_cases h : m < 10
    · rw [Nat.toDigits_of_lt_base h]
      refine ⟨_, _, rfl, ?_⟩
      have : ∀ k : Nat, k < 10 → k ≠ 0 → Nat.digitChar k ≠ '0' := by decide
      exact this m h hm
    · have t : Nat.toDigits 10 (m / 10) ++ Nat.toDigits 10 (m % 10) = Nat.toDigits 10 (10 * (m / 10) + m % 10) := Nat.toDigits_append_toDigits (by decide) (by omega) (Nat.mod_lt m (by decide))
      rw [Nat.div_add_mod] at t
      obtain ⟨d, r, e, hd⟩ := ih (m / 10) (by omega) (by omega)
      rw [← t, e]
      exact ⟨d, _, rfl, hd⟩
theorem num_cp (m : Nat) : cpL (numS (m : Int)) = (Nat.toDigits 10 m).map Char.toNat := PySem.W.KIN.signs_num m
theorem num_digit (m : Nat) : ∀ c ∈ cpL (numS (m : Int)), 48 ≤ c ∧ c ≤ 57 := by
  intro c hc
  rw [num_cp] at hc
  obtain ⟨ch, hch, e⟩ := List.mem_map.mp hc
  have r := digit_range (Nat.isDigit_of_mem_toDigits (by decide) (by decide) hch)
  rw [← e]
  exact r
theorem num_len (m : Nat) (h : m ≤ 99999) : 1 ≤ (numS (m : Int)).length ∧ (numS (m : Int)).length ≤ 5 := by
  have e : (numS (m : Int)).length = (Nat.toDigits 10 m).length := by
    show (cpL (numS (m : Int))).length = _
    rw [num_cp, List.length_map]
  have := td_len 4 m (by omega)
  have := toDigits_len_ge 10 m
  rw [e]
  omega
theorem num_first (m : Nat) (hm : m ≠ 0) : ∃ d r, cpL (numS (m : Int)) = d :: r ∧ d ≠ 48 := by
  obtain ⟨d, r, e, hd⟩ := td_head m hm
  rw [num_cp, e]
  refine ⟨d.toNat, r.map Char.toNat, rfl, fun q => hd ?_⟩
  exact Char.toNat_inj.mp q
theorem num_back (m : Nat) (h : m ≤ 99999) : PySem.intText? (numS (m : Int)) = some (m : Int) := PySem.W.KIN.num_reads (by omega) (by omega)
end NV

set_option Elab.async false
set_option linter.all false
set_option maxRecDepth 100000
set_option maxHeartbeats 4000000
namespace NV
open PySem PySem.Spec PyProof.Rows L2
/-! rules and their words -/
theorem LET_all : (LET.cps.toList.all fun c => decide (97 ≤ c) && decide (c ≤ 122)) = true := by decide +kernel
theorem LET_mem {c : Nat} (h : c ∈ LET.cps.toList) : 97 ≤ c ∧ c ≤ 122 := by
  have := List.all_eq_true.mp LET_all c h
  simpa using this
theorem name_lo {x : Str} (h : nameB (.str x) = true) : (∀ c ∈ cpL x, 97 ≤ c ∧ c ≤ 122) ∧ 1 ≤ x.length ∧ x.length ≤ 8 := by
  have h : (decide ((1 : Int) ≤ (x.length : Int)) && decide ((x.length : Int) ≤ 8) && signOk x) = true := h
  simp only [Bool.and_eq_true, decide_eq_true_eq] at h
  refine ⟨fun c hc => ?_, by omega, by omega⟩
  have := List.all_eq_true.mp h.2 c hc
  rw [inS_sign] at this
  exact LET_mem (of_decide_eq_true this)
def nm (x : Str) : Prop := nameB (.str x) = true
inductive RF : D → Prop
  | num (w : Str) (hw : w = "song" ∨ w = "singer" ∨ w = "fresh") (n : Nat) (h : n ≤ 99999) : RF (.tup [.str w, .int (n : Int)])
  | behind (a b : Str) (ha : nm a) (hb : nm b) : RF (.tup [.str "behind", .str a, .str b])
  | never (a : Str) (ds : List Nat) (s e : Nat) (ha : nm a) (h6 : ∀ d ∈ ds, d < 7) (hl : ds.length ≤ 7) (h0 : ds ≠ []) (hs : s ≤ 99999) (he : e ≤ 99999) : RF (.tup [.str "never", .str a, .tup (ds.map fun d => D.int ((d : Nat) : Int)), .int (s : Int), .int (e : Int)])
  | most (a : Str) (n s : Nat) (ha : nm a) (hn : n ≤ 99999) (hs : s ≤ 99999) : RF (.tup [.str "most", .str a, .int (n : Int), .int (s : Int)])
  | wheel (ws : List Str) (h0 : ws ≠ []) (h8 : ws.length ≤ 8) (hw : ∀ w ∈ ws, nm w) : RF (.tup [.str "wheel", .tup (ws.map D.str)])
theorem bet_int {lo hi : Int} {d : D} (h : betB lo hi d = true) : d = .int (toI d) ∧ lo ≤ toI d ∧ toI d ≤ hi := by
  cases d with
  | int i =>
    unfold betB at h
    simp only [Bool.and_eq_true, decide_eq_true_eq] at h
    exact ⟨rfl, h⟩
  | _ => cases h
theorem bet_nat {lo hi : Int} {d : D} (h : betB lo hi d = true) (h0 : 0 ≤ lo) : ∃ n : Nat, d = .int (n : Int) ∧ lo ≤ (n : Int) ∧ (n : Int) ≤ hi := by
  obtain ⟨h1, h2, h3⟩ := bet_int h
  refine ⟨(toI d).toNat, ?_, by omega, by omega⟩
  rw [show (((toI d).toNat : Nat) : Int) = toI d by omega]
  exact h1
theorem kind_name {d : D} (h : kindB d = true) : ∃ x : Str, d = .str x ∧ nm x := by
  unfold kindB at h
  rw [Bool.and_eq_true] at h
  cases d with
  | str x => exact ⟨x, rfl, h.1⟩
  | _ => cases h.1
theorem names_of : ∀ {xs : List D}, xs.all nameB = true → ∃ ws : List Str, xs = ws.map D.str ∧ ∀ w ∈ ws, nm w
  | [], _ => ⟨[], rfl, fun _ h => (List.not_mem_nil h).elim⟩
  | d :: xs, h => by
    rw [List.all_cons, Bool.and_eq_true] at h
    obtain ⟨ws, e, hw⟩ := names_of h.2
    cases d with
    | str x =>
      refine ⟨x :: ws, by rw [e]; rfl, fun w hm => ?_⟩
      rcases List.mem_cons.mp hm with rfl | hm
      · exact h.1
      · exact hw w hm
    | _ => cases h.1
theorem bet_nats {lo hi : Int} (h0 : 0 ≤ lo) : ∀ {xs : List D}, xs.all (betB lo hi) = true → ∃ ns : List Nat, xs = (ns.map fun d => D.int ((d : Nat) : Int)) ∧ ∀ n ∈ ns, lo ≤ (n : Int) ∧ (n : Int) ≤ hi
  | [], _ => ⟨[], rfl, fun _ h => (List.not_mem_nil h).elim⟩
  | d :: xs, h => by
    rw [List.all_cons, Bool.and_eq_true] at h
    obtain ⟨ns, e, hn⟩ := bet_nats h0 h.2
    obtain ⟨n, en, h1, h2⟩ := bet_nat h.1 h0
    refine ⟨n :: ns, by rw [e, en]; rfl, fun m hm => ?_⟩
    rcases List.mem_cons.mp hm with rfl | hm
    · exact ⟨h1, h2⟩
    · exact hn m hm
theorem days_nats {d : D} (h : daysB d = true) : ∃ ds : List Nat, d = .tup (ds.map fun d => D.int ((d : Nat) : Int)) ∧ (∀ n ∈ ds, n < 7) ∧ ds.length ≤ 7 ∧ ds ≠ [] := by
  unfold daysB at h
  split at h
  · rename_i xs
    simp only [Bool.and_eq_true, decide_eq_true_eq] at h
    obtain ⟨h1, h2, h3⟩ := h
    obtain ⟨ds, rfl, hd⟩ := bet_nats (by decide) h2
    have pw : ds.Pairwise (· < ·) := by
      rw [List.map_map, List.pairwise_map] at h3
      exact h3.imp fun q => by
        have q : ((_ : Nat) : Int) < ((_ : Nat) : Int) := q
        exact_mod_cast q
    have h6 : ∀ n ∈ ds, n < 7 := fun n hn => by have := (hd n hn).2; omega
    refine ⟨ds, rfl, h6, ?_, ?_⟩
    · have := nodup_len ds (List.range 7) (pw.imp fun q => Nat.ne_of_lt q) (fun n hn => List.mem_range.mpr (h6 n hn))
      simpa using this
    · intro e
      rw [e] at h1
      simp at h1
  · cases h
theorem rf_of {r : D} (h : ruleB r = true) : RF r := by
  unfold ruleB at h
  split at h
  · rename_i w ps
    by_cases h1 : w = "song" ∨ w = "singer" ∨ w = "fresh"
    · rw [decide_eq_true h1, cond_true] at h
      split at h
      · rename_i a
        obtain ⟨n, rfl, _, hn⟩ := bet_nat h (by decide)
        exact .num w h1 n (by omega)
      · cases h
    · rw [decide_eq_false h1, cond_false] at h
      by_cases h2 : w = "behind"
      · subst h2
        rw [decide_eq_true rfl, cond_true] at h
        split at h
        · rename_i a b
          rw [Bool.and_eq_true] at h
          obtain ⟨x, rfl, hx⟩ := kind_name h.1
          obtain ⟨y, rfl, hy⟩ := kind_name h.2
          exact .behind x y hx hy
        · cases h
      · rw [decide_eq_false h2, cond_false] at h
        by_cases h3 : w = "never"
        · subst h3
          rw [decide_eq_true rfl, cond_true] at h
          split at h
          · rename_i a b c e
            simp only [Bool.and_eq_true] at h
            obtain ⟨ha, hb, hc⟩ := h
            unfold hoursB at hc
            simp only [Bool.and_eq_true] at hc
            obtain ⟨x, rfl, hx⟩ := kind_name ha
            obtain ⟨ds, rfl, d6, dl, d0⟩ := days_nats hb
            obtain ⟨s, rfl, _, hs⟩ := bet_nat hc.1 (by decide)
            obtain ⟨e', rfl, _, he⟩ := bet_nat hc.2.1 (by decide)
            exact .never x ds s e' hx d6 dl d0 (by omega) (by omega)
          · cases h
        · rw [decide_eq_false h3, cond_false] at h
          by_cases h4 : w = "most"
          · subst h4
            rw [decide_eq_true rfl, cond_true] at h
            split at h
            · rename_i a b c
              simp only [Bool.and_eq_true] at h
              obtain ⟨x, rfl, hx⟩ := kind_name h.1
              obtain ⟨n, rfl, _, hn⟩ := bet_nat h.2.1 (by decide)
              obtain ⟨s, rfl, _, hs⟩ := bet_nat h.2.2 (by decide)
              exact .most x n s hx (by omega) (by omega)
            · cases h
          · rw [decide_eq_false h4, cond_false] at h
            by_cases h5 : w = "wheel"
            · subst h5
              rw [decide_eq_true rfl, cond_true] at h
              split at h
              · rename_i a
                unfold wordsB at h
                split at h
                · rename_i xs
                  simp only [Bool.and_eq_true, decide_eq_true_eq] at h
                  obtain ⟨ws, rfl, hw⟩ := names_of h.2.2
                  rw [List.length_map] at h
                  exact .wheel ws (by intro e; rw [e] at h; simp at h) (by omega) hw
                · cases h
              · cases h
            · rw [decide_eq_false h5, cond_false] at h
              cases h
  · cases h
/-! words -/
def dayT (ds : List Nat) : Str := Txt.join ⟨#[]⟩ (ds.map fun d : Nat => numS (d : Int))
theorem day_one : ∀ d : Nat, d < 7 → cpL (numS (d : Int)) = [48 + d] := by decide +kernel
theorem dayT_cp : ∀ {ds : List Nat}, (∀ d ∈ ds, d < 7) → cpL (dayT ds) = ds.map (48 + ·) := by
  intro ds h
  have e : cpL (dayT ds) = ((ds.map fun d : Nat => numS (d : Int)).map fun p => p.cps.toList).flatten := join_empty _
  rw [e]
  clear e
  induction ds with
  | nil => rfl
  | cons d ds ih =>
    have e1 : (numS (d : Int)).cps.toList = [48 + d] := day_one d (h d List.mem_cons_self)
    rw [List.map_cons, List.map_cons, List.flatten_cons, ih fun d hd => h d (List.mem_cons_of_mem _ hd), e1]
    rfl
def stS : D → Str
  | .int n => numS n
  | .str x => x
  | _ => ⟨#[]⟩
def wds : D → List Str
  | .tup [.str w, .int n] => [w, numS n]
  | .tup [.str w, .str a, .str b] => [w, a, b]
  | .tup [.str w, .str a, .tup ds, .int s, .int e] => [w, a, Txt.join ⟨#[]⟩ (ds.map stS), numS s, numS e]
  | .tup [.str w, .str a, .int n, .int s] => [w, a, numS n, numS s]
  | .tup [.str w, .tup ws] => w :: ws.map stS
  | _ => []
def rowS (r : D) : Str := Txt.join ⟨#[32]⟩ (wds r)
/-- a word of a row -/
structure Wo (x : Str) : Prop where
  lo : ∀ c ∈ cpL x, 48 ≤ c ∧ c ≤ 122
  one : 1 ≤ x.length
  eight : x.length ≤ 8
theorem Wo.sm {x : Str} (h : Wo x) : sm x := fun c hc => by have := (h.lo c hc).2; omega
theorem Wo.free {x : Str} (h : Wo x) {c : Nat} (hc : c < 48) : c ∉ cpL x := fun hm => by have := (h.lo c hm).1; omega
theorem wo_name {x : Str} (h : nm x) : Wo x := by
  obtain ⟨h1, h2, h3⟩ := name_lo h
  exact ⟨fun c hc => by have := h1 c hc; omega, h2, h3⟩
theorem wo_num {n : Nat} (h : n ≤ 99999) : Wo (numS (n : Int)) := by
  obtain ⟨h2, h3⟩ := num_len n h
  exact ⟨fun c hc => by have := num_digit n c hc; omega, h2, by omega⟩
theorem wo_days {ds : List Nat} (h : ∀ d ∈ ds, d < 7) (hl : ds.length ≤ 7) (h0 : ds ≠ []) : Wo (dayT ds) := by
  have e := dayT_cp h
  have ln : (dayT ds).length = ds.length := by
    show (cpL (dayT ds)).length = _
    rw [e, List.length_map]
  refine ⟨fun c hc => ?_, ?_, by omega⟩
  · rw [e] at hc
    obtain ⟨d, hd, rfl⟩ := List.mem_map.mp hc
    have := h d hd
    omega
  · rw [ln]
    exact List.length_pos_iff.mpr h0
def wob (x : Str) : Bool := (x.cps.toList.all fun c => decide (48 ≤ c) && decide (c ≤ 122)) && decide (1 ≤ x.length) && decide (x.length ≤ 8)
theorem wo_by {x : Str} (h : wob x = true) : Wo x := by
  unfold wob at h
  simp only [Bool.and_eq_true, decide_eq_true_eq] at h
  refine ⟨fun c hc => ?_, h.1.2, h.2⟩
  have := List.all_eq_true.mp h.1.1 c hc
  simpa using this
theorem st_nums (ds : List Nat) : (ds.map fun d => D.int ((d : Nat) : Int)).map stS = ds.map fun d : Nat => numS (d : Int) := by
  rw [List.map_map]
  rfl
theorem st_strs (ws : List Str) : (ws.map D.str).map stS = ws := by
  rw [List.map_map]
  exact List.map_id ws
theorem wds_never (a : Str) (ds : List Nat) (s e : Int) : wds (.tup [.str "never", .str a, .tup (ds.map fun d => D.int ((d : Nat) : Int)), .int s, .int e]) = (["never", a, dayT ds, numS s, numS e] : List Str) := by
  show ([_, _, Txt.join ⟨#[]⟩ ((ds.map fun d => D.int ((d : Nat) : Int)).map stS), _, _] : List Str) = _
  rw [st_nums]
  rfl
theorem wds_wheel (ws : List Str) : wds (.tup [.str "wheel", .tup (ws.map D.str)]) = (("wheel" : Str) :: ws) := by
  show (_ :: (ws.map D.str).map stS : List Str) = _
  rw [st_strs]
theorem wds_ok {r : D} (h : RF r) : wds r ≠ [] ∧ (wds r).length ≤ 9 ∧ ∀ w ∈ wds r, Wo w := by
  cases h with
  | num w hw n h =>
    refine ⟨by simp [wds], by simp [wds], fun x hx => ?_⟩
    have hx : x ∈ [w, numS (n : Int)] := hx
    simp only [List.mem_cons, List.not_mem_nil, or_false] at hx
    rcases hx with rfl | rfl
    · rcases hw with rfl | rfl | rfl <;> exact wo_by (by decide +kernel)
    · exact wo_num h
  | behind a b ha hb =>
    refine ⟨by simp [wds], by simp [wds], fun x hx => ?_⟩
    have hx : x ∈ (["behind", a, b] : List Str) := hx
    simp only [List.mem_cons, List.not_mem_nil, or_false] at hx
    rcases hx with rfl | rfl | rfl
    · exact wo_by (by decide +kernel)
    · exact wo_name ha
    · exact wo_name hb
  | never a ds s e ha h6 hl h0 hs he =>
    rw [wds_never]
    refine ⟨by simp, by simp, fun x hx => ?_⟩
    simp only [List.mem_cons, List.not_mem_nil, or_false] at hx
    rcases hx with rfl | rfl | rfl | rfl | rfl
    · exact wo_by (by decide +kernel)
    · exact wo_name ha
    · exact wo_days h6 hl h0
    · exact wo_num hs
    · exact wo_num he
  | most a n s ha hn hs =>
    refine ⟨by simp [wds], by simp [wds], fun x hx => ?_⟩
    have hx : x ∈ (["most", a, numS (n : Int), numS (s : Int)] : List Str) := hx
    simp only [List.mem_cons, List.not_mem_nil, or_false] at hx
    rcases hx with rfl | rfl | rfl | rfl
    · exact wo_by (by decide +kernel)
    · exact wo_name ha
    · exact wo_num hn
    · exact wo_num hs
  | wheel ws h0 h8 hw =>
    rw [wds_wheel]
    refine ⟨by simp, by simp; omega, fun x hx => ?_⟩
    rcases List.mem_cons.mp hx with rfl | hx
    · exact wo_by (by decide +kernel)
    · exact wo_name (hw x hx)
theorem sum_le8 : ∀ {ws : List Str}, (∀ w ∈ ws, w.length ≤ 8) → (ws.map (·.length)).sum ≤ 8 * ws.length
  | [], _ => Nat.zero_le _
  | x :: ws, h => by
    have := sum_le8 (ws := ws) fun w hw => h w (List.mem_cons_of_mem _ hw)
    have := h x List.mem_cons_self
    rw [List.map_cons, List.sum_cons, List.length_cons]
    omega
theorem one_len (c : Nat) : (⟨#[c]⟩ : Str).length = 1 := rfl
theorem sm32 : sm ⟨#[32]⟩ := fun c hc => by
  have : c ∈ [32] := hc
  simp at this
  omega
theorem sm10 : sm ⟨#[10]⟩ := fun c hc => by
  have : c ∈ [10] := hc
  simp at this
  omega
theorem sm0 : sm ⟨#[]⟩ := fun c hc => by cases hc
/-- words joined by blanks -/
theorem join_row {ws : List Str} (hw : ∀ w ∈ ws, Wo w) (hl : ws.length ≤ 50) {d : D} (hd : d = .lst (ws.map D.str) ∨ d = .tup (ws.map D.str)) : joinD (.str " ") d = some (.str (Txt.join ⟨#[32]⟩ ws)) := by
  rw [sp32]
  have := sum_le8 fun w hm => (hw w hm).eight
  exact joinD_of hd sm32 (fun w hm => (hw w hm).sm) (by rw [one_len]; omega)
theorem jL_free {c d : Nat} (hd : c ≠ d) : ∀ {us : List (List Nat)}, (∀ u ∈ us, d ∉ u) → d ∉ jL c us
  | [], _, h => by cases h
  | [x], hu, h => hu x List.mem_cons_self h
  | x :: y :: r, hu, h => by
    have h : d ∈ x ++ c :: jL c (y :: r) := h
    rcases List.mem_append.mp h with h | h
    · exact hu x List.mem_cons_self h
    · rcases List.mem_cons.mp h with h | h
      · exact hd h.symm
      · exact jL_free hd (fun u hm => hu u (List.mem_cons_of_mem _ hm)) h
theorem join_cpT (c : Nat) (ws : List Str) : cpL (Txt.join ⟨#[c]⟩ ws) = jL c (ws.map cpL) := by
  rw [← join_cp, show Txt.join ⟨#[c]⟩ ws = Str.join ⟨#[c]⟩ ws from StrLaws.glued_eq_join _ _]
/-- a row: no line end in it, not empty -/
theorem row_ok {r : D} (h : RF r) : sm (rowS r) ∧ 10 ∉ cpL (rowS r) ∧ (rowS r).length ≤ 90 ∧ cpL (rowS r) ≠ [] := by
  obtain ⟨h1, h2, h3⟩ := wds_ok h
  have s8 := sum_le8 fun w hm => (h3 w hm).eight
  have jl := join_len ⟨#[32]⟩ (wds r)
  rw [one_len] at jl
  have hj : Txt.join ⟨#[32]⟩ (wds r) = Str.join ⟨#[32]⟩ (wds r) := StrLaws.glued_eq_join _ _
  refine ⟨?_, ?_, ?_, ?_⟩
  · unfold rowS
    rw [hj]
    exact sm_join sm32 fun w hm => (h3 w hm).sm
  · unfold rowS
    rw [join_cpT]
    refine jL_free (by decide) fun u hu => ?_
    obtain ⟨w, hw, rfl⟩ := List.mem_map.mp hu
    exact (h3 w hw).free (by decide)
  · unfold rowS
    omega
  · unfold rowS
    rw [join_cpT]
    cases q : wds r with
    | nil => exact absurd q h1
    | cons x ws =>
      have hx := (h3 x (by rw [q]; exact List.mem_cons_self)).one
      have hx : cpL x ≠ [] := fun e => by
        have : x.length = (cpL x).length := rfl
        rw [this, e] at hx
        simp at hx
      cases ws with
      | nil => exact hx
      | cons y ws =>
        show cpL x ++ 32 :: _ ≠ []
        simp
end NV

set_option Elab.async false
set_option linter.all false
set_option maxRecDepth 100000
set_option maxHeartbeats 4000000
namespace NV
open PySem PySem.Spec PyProof.Rows L2
/-! the program: rules shown, rows read -/
/-- a part of a rule -/
def leafP (p : D) : Prop := (∃ n : Nat, p = .int (n : Int) ∧ n ≤ 99999) ∨ ∃ x : Str, p = .str x ∧ Wo x
theorem strZ_ok {p : D} (h : leafP p) : strZ [p] = some (.str (stS p)) ∧ Wo (stS p) ∧ isT .tuple p = some (.bl false) := by
  rcases h with ⟨n, rfl, hn⟩ | ⟨x, rfl, hx⟩
  · exact ⟨strI_ok (i := (n : Int)) (by omega) (by omega), wo_num hn, rfl⟩
  · exact ⟨rfl, hx, rfl⟩
def bSh : SM := (sIf (tOfE (eIsT .tuple (rVar 2))) (sDrop (eMut 1 isLst appD (lCons (eJoin (eOp2 ixD (rOf (eLst (lCons (eC (.str "")) (lCons (eC (.str " ")) lNil)))) (rOf (eCallB intD (aCons (rOf (eOp2 eqO (rOf (eOp2 ixD (rVar 0) (rOf (eC (.int 0))))) (rOf (eC (.str "wheel"))))) aNil)))) (eComp (iVal (eVar 2)) (gNm 3) tYesM (eCallB strZ (aCons (rVar 3) aNil)) [3])) lNil))) (sDrop (eMut 1 isLst appD (lCons (eCallB strZ (aCons (rVar 2) aNil)) lNil))))
theorem shown_rule_eq : m_shown_rule = sSeq (sSetO 1 (eLst lNil)) (sSeq (sFor (iVal (eVar 0)) (gNm 2) bSh) (sFz 1 (sRet (eJoin (eC (.str " ")) (eVar 1))))) := rfl
theorem app_str (L : List Str) (x : Str) (h : L.length ≤ 1000) : appD (.lst (L.map D.str)) [.str x] = some (.lst ((L ++ [x]).map D.str), .non) := by
  have : (L.map D.str).length < sizeLine := by rw [List.length_map, sizeLine_eq]; omega
  simp only [appD, if_pos this, List.map_append]
  rfl
theorem sh_leaf (r : D) (L : List Str) (hl : L.length ≤ 1000) {p : D} (hp : leafP p) (s3 : Slot) : bSh [.v r, .o (.lst (L.map D.str)), .v p, s3] = .nx [.v r, .o (.lst ((L ++ [stS p]).map D.str)), .v p, s3] := by
  obtain ⟨z, _, ti⟩ := strZ_ok hp
  have ap := app_str L (stS p) hl
  generalize D.lst (L.map D.str) = LL at *
  generalize D.lst ((L ++ [stS p]).map D.str) = L2 at *
  by_cases hL : isLst LL = true
  · simp [bSh, ti, z, eMut, hL, ap, ownSet]
  · cases LL with
    | lst _ => exact absurd rfl hL
    | _ => cases ap
theorem sep_two (b : Bool) : ∃ i, intD [.bl b] = some (.int i) ∧ ixD (.lst [.str "", .str " "]) (.int i) = some (.str (if b then " " else "")) := by
  cases b with
  | true => exact ⟨1, rfl, rfl⟩
  | false => exact ⟨0, rfl, rfl⟩
def sepW (w : Str) : Str := if w = "wheel" then ⟨#[32]⟩ else ⟨#[]⟩
theorem sepW_is (w : Str) : (if decide (w = "wheel") = true then (" " : Str) else "") = sepW w := by
  unfold sepW
  by_cases h : w = "wheel"
  · rw [if_pos h, if_pos (decide_eq_true h), sp32]
  · rw [if_neg h, if_neg (by simpa using h), em0]
theorem sm_sepW (w : Str) : sm (sepW w) ∧ (sepW w).length ≤ 1 := by
  unfold sepW
  split
  · exact ⟨sm32, Nat.le_refl _⟩
  · exact ⟨sm0, Nat.zero_le _⟩
theorem sh_tup (r : D) {w : Str} (hw : ixD r (.int 0) = some (.str w)) (L : List Str) (hl : L.length ≤ 1000) {ds : List D} (hd : ∀ d ∈ ds, leafP d) (h20 : ds.length ≤ 20) (s3 : Slot) : ∃ t3, bSh [.v r, .o (.lst (L.map D.str)), .v (.tup ds), s3] = .nx [.v r, .o (.lst ((L ++ [Txt.join (sepW w) (ds.map stS)]).map D.str)), .v (.tup ds), t3] := by
  have ti : isT .tuple (.tup ds) = some (.bl true) := rfl
  obtain ⟨i, ei, es⟩ := sep_two (decide (w = "wheel"))
  rw [sepW_is] at es
  have eq := eqO_ss w "wheel"
  obtain ⟨y, cp⟩ := comp_pure (mt := tYesM) (me := (eCallB strZ (aCons (rVar 3) aNil))) (i := 3) (fun s => [.v r, .o (.lst (L.map D.str)), .v (.tup ds), s]) (fun _ _ => rfl) (fun _ => true) (fun d => .str (stS d)) ds (fun _ _ => by simp) (fun d hm _ => by
    have := (strZ_ok (hd d hm)).1
    generalize D.lst (L.map D.str) = LL at *
    simp [this]) [] s3
  have fl : ds.filter (fun _ => true) = ds := List.filter_eq_self.mpr fun _ _ => rfl
  have mm : ds.map (fun d => D.str (stS d)) = (ds.map stS).map D.str := by rw [List.map_map]; rfl
  rw [List.nil_append, fl, mm] at cp
  have wo : ∀ x ∈ ds.map stS, Wo x := fun x hx => by
    obtain ⟨d, hm, rfl⟩ := List.mem_map.mp hx
    exact (strZ_ok (hd d hm)).2.1
  have s8 := sum_le8 fun x hx => (wo x hx).eight
  rw [List.length_map] at s8
  obtain ⟨sp, s1⟩ := sm_sepW w
  have jo : joinD (.str (sepW w)) (.lst ((ds.map stS).map D.str)) = some (.str (Txt.join (sepW w) (ds.map stS))) := joinD_of (.inl rfl) sp (fun x hx => (wo x hx).sm) (by
    rw [List.length_map]
    have : ds.length * (sepW w).length ≤ 20 * 1 := Nat.mul_le_mul h20 s1
    omega)
  have ap := app_str L (Txt.join (sepW w) (ds.map stS)) hl
  have it : itemsD (.tup ds) = some ds := rfl
  refine ⟨keepV s3, ?_⟩
  have hL : isLst (.lst (L.map D.str)) = true := rfl
  generalize Txt.join (sepW w) (ds.map stS) = JJ at *
  generalize sepW w = SP at *
  generalize D.lst ((L ++ [JJ]).map D.str) = L2 at *
  generalize D.lst (L.map D.str) = LL at *
  generalize (ds.map stS).map D.str = DS at *
  generalize D.tup ds = TD at *
  simp [bSh, ti, hw, eq, ei, es, it, cp, eJoin, isStr, jo, eMut, hL, ap, ownSet, backE, wipeE]
/-- what a part is shown as -/
def shP (w : Str) : D → Str
  | .tup ds => Txt.join (sepW w) (ds.map stS)
  | p => stS p
def partP (p : D) : Prop := leafP p ∨ ∃ ds, p = .tup ds ∧ (∀ d ∈ ds, leafP d) ∧ ds.length ≤ 20
theorem sh_loop (r : D) {w : Str} (hw : ixD r (.int 0) = some (.str w)) : ∀ (ps : List D) (L : List Str) (s2 s3 : Slot), (∀ p ∈ ps, partP p) → L.length + ps.length ≤ 1000 →
    ∃ t2 t3, forL (gNm 2) bSh ps [.v r, .o (.lst (L.map D.str)), s2, s3] = .nx [.v r, .o (.lst ((L ++ ps.map (shP w)).map D.str)), t2, t3]
  | [], L, s2, s3, _, _ => ⟨s2, s3, by rw [List.map_nil, List.append_nil]; rfl⟩
  | p :: ps, L, s2, s3, hp, hl => by
    rw [List.length_cons] at hl
    obtain ⟨u3, st⟩ : ∃ u3, bSh [.v r, .o (.lst (L.map D.str)), .v p, s3] = .nx [.v r, .o (.lst ((L ++ [shP w p]).map D.str)), .v p, u3] := by
      rcases hp p List.mem_cons_self with h | ⟨ds, rfl, hd, h20⟩
      · refine ⟨s3, ?_⟩
        rw [sh_leaf r L (by omega) h s3]
        rcases h with ⟨n, rfl, _⟩ | ⟨x, rfl, _⟩ <;> rfl
      · exact sh_tup r hw L (by omega) hd h20 s3
    obtain ⟨t2, t3, ih⟩ := sh_loop r hw ps (L ++ [shP w p]) (.v p) u3 (fun q hq => hp q (List.mem_cons_of_mem _ hq)) (by rw [List.length_append, List.length_singleton]; omega)
    refine ⟨t2, t3, ?_⟩
    unfold forL
    simp only [gNm_eq, List.set_cons_succ, List.set_cons_zero, st]
    rw [ih, List.append_assoc]
    rfl
theorem lf_num {n : Nat} (h : n ≤ 99999) : partP (.int (n : Int)) := .inl (.inl ⟨n, rfl, h⟩)
theorem lf_str {x : Str} (h : Wo x) : partP (.str x) := .inl (.inr ⟨x, rfl, h⟩)
/-- the parts of a rule, how they are shown -/
theorem rf_parts {r : D} (h : RF r) : ∃ (w : Str) (ps : List D), r = .tup ps ∧ ixD r (.int 0) = some (.str w) ∧ ps.length ≤ 5 ∧ (∀ p ∈ ps, partP p) ∧ joinD (.str " ") (.lst ((ps.map (shP w)).map D.str)) = some (.str (rowS r)) := by
  obtain ⟨_, _, wo⟩ := wds_ok h
  cases h with
  | num w hw n h =>
    refine ⟨w, _, rfl, rfl, by simp, fun p hp => ?_, join_row wo (by simp [wds]) (.inl rfl)⟩
    simp only [List.mem_cons, List.not_mem_nil, or_false] at hp
    rcases hp with rfl | rfl
    · exact lf_str (wo w List.mem_cons_self)
    · exact lf_num h
  | behind a b ha hb =>
    refine ⟨"behind", _, rfl, rfl, by simp, fun p hp => ?_, join_row wo (by simp [wds]) (.inl rfl)⟩
    simp only [List.mem_cons, List.not_mem_nil, or_false] at hp
    rcases hp with rfl | rfl | rfl
    · exact lf_str (wo_by (by decide +kernel))
    · exact lf_str (wo_name ha)
    · exact lf_str (wo_name hb)
  | never a ds s e ha h6 hl h0 hs he =>
    refine ⟨"never", _, rfl, rfl, by simp, fun p hp => ?_, ?_⟩
    · simp only [List.mem_cons, List.not_mem_nil, or_false] at hp
      rcases hp with rfl | rfl | rfl | rfl | rfl
      · exact lf_str (wo_by (by decide +kernel))
      · exact lf_str (wo_name ha)
      · refine .inr ⟨_, rfl, fun d hd => ?_, by rw [List.length_map]; omega⟩
        obtain ⟨n, hn, rfl⟩ := List.mem_map.mp hd
        exact .inl ⟨n, rfl, by have := h6 n hn; omega⟩
      · exact lf_num hs
      · exact lf_num he
    · have sw : sepW "never" = ⟨#[]⟩ := by unfold sepW; rw [if_neg (by decide)]
      have : ([D.str "never", .str a, .tup (ds.map fun d => D.int ((d : Nat) : Int)), .int (s : Int), .int (e : Int)].map (shP "never")) = wds (.tup [.str "never", .str a, .tup (ds.map fun d => D.int ((d : Nat) : Int)), .int (s : Int), .int (e : Int)]) := by
        show ([_, _, Txt.join (sepW "never") _, _, _] : List Str) = _
        rw [sw]
        rfl
      rw [this]
      exact join_row wo (by rw [wds_never]; simp) (.inl rfl)
  | most a n s ha hn hs =>
    refine ⟨"most", _, rfl, rfl, by simp, fun p hp => ?_, join_row wo (by simp [wds]) (.inl rfl)⟩
    simp only [List.mem_cons, List.not_mem_nil, or_false] at hp
    rcases hp with rfl | rfl | rfl | rfl
    · exact lf_str (wo_by (by decide +kernel))
    · exact lf_str (wo_name ha)
    · exact lf_num hn
    · exact lf_num hs
  | wheel ws h0 h8 hw =>
    refine ⟨"wheel", _, rfl, rfl, by simp, fun p hp => ?_, ?_⟩
    · simp only [List.mem_cons, List.not_mem_nil, or_false] at hp
      rcases hp with rfl | rfl
      · exact lf_str (wo_by (by decide +kernel))
      · refine .inr ⟨_, rfl, fun d hd => ?_, by rw [List.length_map]; omega⟩
        obtain ⟨x, hx, rfl⟩ := List.mem_map.mp hd
        exact .inr ⟨x, rfl, wo_name (hw x hx)⟩
    · have sw : sepW "wheel" = ⟨#[32]⟩ := by unfold sepW; rw [if_pos rfl]
      have wl : ∀ w ∈ ws, Wo w := fun w hm => wo_name (hw w hm)
      have jl := join_len ⟨#[32]⟩ ws
      have s8 := sum_le8 fun w hm => (wl w hm).eight
      rw [one_len] at jl
      have e2 : (ws.map D.str).map stS = ws := st_strs ws
      have : ([D.str "wheel", .tup (ws.map D.str)].map (shP "wheel")) = (["wheel", Txt.join ⟨#[32]⟩ ws] : List Str) := by
        show ([_, Txt.join (sepW "wheel") _] : List Str) = _
        rw [sw, e2]
        rfl
      rw [this]
      have hj : Txt.join ⟨#[32]⟩ ws = Str.join ⟨#[32]⟩ ws := StrLaws.glued_eq_join _ _
      have sw : sm ("wheel" : Str) := (wo_by (by decide +kernel)).sm
      have l5 : ("wheel" : Str).length = 5 := by decide
      rw [sp32, joinD_of (ws := (["wheel", Txt.join ⟨#[32]⟩ ws] : List Str)) (.inl rfl) sm32 (fun x hx => by
        simp only [List.mem_cons, List.not_mem_nil, or_false] at hx
        rcases hx with rfl | rfl
        · exact sw
        · rw [hj]
          exact sm_join sm32 fun w hm => (wl w hm).sm) (by
        simp only [List.map_cons, List.map_nil, List.sum_cons, List.sum_nil, List.length_cons, List.length_nil, one_len, l5]
        omega)]
      congr 2
      unfold rowS
      rw [wds_wheel, show Txt.join ⟨#[32]⟩ (["wheel", Txt.join ⟨#[32]⟩ ws] : List Str) = Str.join ⟨#[32]⟩ (["wheel", Txt.join ⟨#[32]⟩ ws] : List Str) from StrLaws.glued_eq_join _ _, show Txt.join ⟨#[32]⟩ (("wheel" : Str) :: ws) = Str.join ⟨#[32]⟩ (("wheel" : Str) :: ws) from StrLaws.glued_eq_join _ _, hj]
      cases ws with
      | nil => exact absurd rfl h0
      | cons x ws => rfl
theorem shown_rule_call {r : D} (h : RF r) (ρ : Env) : callG [false] false F_shown_rule [.val r] ρ = .ok (.str (rowS r)) ρ := by
  obtain ⟨w, ps, hr, hw, h5, hp, jo⟩ := rf_parts h
  obtain ⟨t2, t3, lp⟩ := sh_loop r hw ps [] .no .no hp (by simp; omega)
  rw [List.nil_append, List.map_nil] at lp
  have it : itemsD r = some ps := by rw [hr]; rfl
  refine call_val rfl rfl ?_ (.inl rfl)
  have whole : m_shown_rule [.v r, .no, .no, .no] = .rt (.str (rowS r)) [.v r, .v (.lst ((ps.map (shP w)).map D.str)), t2, t3] := by
    rw [shown_rule_eq]
    have e0 : sSetO 1 (eLst lNil) [.v r, .no, .no, .no] = .nx [.v r, .o (.lst []), .no, .no] := by simp
    have e1 : sFor (iVal (eVar 0)) (gNm 2) bSh [.v r, .o (.lst []), .no, .no] = .nx [.v r, .o (.lst ((ps.map (shP w)).map D.str)), t2, t3] := by
      generalize bSh = BS at *
      simp [it, lp]
    rw [sSeq_eq, e0, oseq_nx, sSeq_eq, e1, oseq_nx]
    generalize rowS r = RS at *
    generalize D.lst ((ps.map (shP w)).map D.str) = LL at *
    simp [sFz, eJoin, isStr, jo]
  have st : slotsOf [false] [r] ++ List.replicate (4 - [r].length) .no = [.v r, .no, .no, .no] := rfl
  unfold F_shown_rule
  rw [runF_eq, st, whole]
  simp
/-! numbers, days -/
def FIG : Str := "0123456789"
theorem FIG_mem : ∀ k : Nat, k < 10 → (48 + k) ∈ FIG.cps.toList := by decide +kernel
theorem fig_in {c : Nat} (h : 48 ≤ c ∧ c ≤ 57) : inD (.str ⟨#[c]⟩) (.str FIG) = some (.bl true) := by
  rw [in_sign, inS_sign]
  have := FIG_mem (c - 48) (by omega)
  rw [show 48 + (c - 48) = c by omega] at this
  rw [decide_eq_true this]
theorem fig_G : G_FIGURES = .str FIG := rfl
theorem figs_comp (x : Str) (hx : ∀ c ∈ cpL x, 48 ≤ c ∧ c ≤ 57) : ∃ y, compL (gNm 1) tYesM (eOp2 inD (rVar 1) (rOf (eC G_FIGURES))) [1] (x.cps.toList.map fun c => D.str ⟨#[c]⟩) [] [.v (.str x), .no] = .ok (x.cps.toList.map fun _ => D.bl true) [.v (.str x), y] := by
  obtain ⟨y, e⟩ := comp_D (mt := tYesM) (me := eOp2 inD (rVar 1) (rOf (eC G_FIGURES))) (i := 1) (fun s => [.v (.str x), s]) (fun _ _ => rfl) (x.cps.toList.map fun c => D.str ⟨#[c]⟩) (fun _ => .bl true) (fun d _ => by simp) (fun d hd => by
    obtain ⟨c, hc, rfl⟩ := List.mem_map.mp hd
    have := fig_in (hx c hc)
    rw [fig_G]
    simp [this]) .no
  rw [List.map_map] at e
  exact ⟨y, e⟩
theorem ixS_zero {x : Str} {d : Nat} {r : List Nat} (e : cpL x = d :: r) : ixD (.str x) (.int 0) = some (.str ⟨#[d]⟩) := by
  show (L2.atI x.cps.toList 0).map (fun c => D.str ⟨#[c]⟩) = _
  rw [show x.cps.toList = d :: r from e]
  simp [L2.atI]
theorem number_in_ok {n : Nat} (h : n ≤ 99999) : F_number_in [.str (numS (n : Int))] = .ok (.int (n : Int)) [] := by
  obtain ⟨l1, l5⟩ := num_len n h
  obtain ⟨y, cp⟩ := figs_comp (numS (n : Int)) (num_digit n)
  have it : itemsD (.str (numS (n : Int))) = some ((numS (n : Int)).cps.toList.map fun c => D.str ⟨#[c]⟩) := rfl
  have al : allD2 [.lst ((numS (n : Int)).cps.toList.map fun _ => D.bl true)] = some (.bl true) := by
    rw [all_map _ fun _ => true]
    simp
  have ln : lenD [.str (numS (n : Int))] = some (.int ((numS (n : Int)).length : Int)) := rfl
  have g1 : (1 : Int) ≤ ((numS (n : Int)).length : Int) := by omega
  have g2 : ((numS (n : Int)).length : Int) ≤ 5 := by omega
  have iz : intZ [.str (numS (n : Int))] = some (.int (n : Int)) := by
    show (if _ then (PySem.intText? _).map D.int else none) = _
    rw [if_pos (by omega), num_back n h]
    rfl
  have zz : ∃ d0 : D, ixD (.str (numS (n : Int))) (.int 0) = some d0 ∧ (eqO d0 (.str "0") = some (.bl false) ∨ (eqO d0 (.str "0") = some (.bl true) ∧ neO (.str (numS (n : Int))) (.str "0") = some (.bl false))) := by
    by_cases h0 : n = 0
    · subst h0
      exact ⟨.str "0", by kernel_rfl, .inr ⟨by kernel_rfl, by kernel_rfl⟩⟩
    · obtain ⟨d, r, e, hd⟩ := num_first n h0
      refine ⟨.str ⟨#[d]⟩, ?_, .inl ?_⟩
      · exact ixS_zero e
      · rw [eqO_ss]
        rw [decide_eq_false fun q => hd (by
          have q : (⟨#[d]⟩ : Str) = "0" := q
          have q2 : cpL ⟨#[d]⟩ = cpL "0" := by rw [q]
          have q3 : [d] = [48] := q2
          injection q3)]
  obtain ⟨d0, i0, hz⟩ := zz
  generalize (numS (n : Int)).cps.toList.map (fun _ => D.bl true) = AL at *
  generalize (numS (n : Int)).cps.toList.map (fun c => D.str ⟨#[c]⟩) = SL at *
  generalize ((numS (n : Int)).length : Int) = ll at *
  generalize D.str (numS (n : Int)) = X at *
  rcases hz with hz | ⟨hz1, hz2⟩
  · simp [F_number_in, m_number_in, ln, g1, g2, G_MOST_FIGURES, it, cp, al, i0, hz, iz, backE, wipeE, keepV]
  · simp [F_number_in, m_number_in, ln, g1, g2, G_MOST_FIGURES, it, cp, al, i0, hz1, hz2, iz, backE, wipeE, keepV]
end NV

set_option Elab.async false
set_option linter.all false
set_option maxRecDepth 100000
set_option maxHeartbeats 4000000
namespace NV
open PySem PySem.Spec PyProof.Rows L2
/-! rows read, rules shown: the program -/
theorem cut1L (x : D) (ps : List D) : slD (.lst (x :: ps)) (some 1) none = some (.lst ps) := by
  show some (D.lst (cutL (x :: ps) (some ((1 : Nat) : Int)) none)) = _
  rw [cut_from]
  rfl
/-! rules: valid ones and their beginnings -/
theorem good_leaf {d : D} (h : leafP d) : good d = true := by
  rcases h with ⟨n, rfl, _⟩ | ⟨x, rfl, _⟩
  · simp [good]
  · simp [good]
theorem good_part {d : D} (h : partP d) : good d = true := by
  rcases h with h | ⟨ds, rfl, hd, h20⟩
  · exact good_leaf h
  · rw [good_tup, List.all_eq_true.mpr fun d hm => good_leaf (hd d hm), decide_eq_true (by omega : ds.length < 16000)]
    rfl
theorem good_rule {r : D} (h : RF r) : good r = true := by
  obtain ⟨w, ps, rfl, _, h5, hp, _⟩ := rf_parts h
  rw [good_tup, List.all_eq_true.mpr fun d hm => good_part (hp d hm), decide_eq_true (by omega : ps.length < 16000)]
  rfl
structure Vr (Rs : List D) : Prop where
  len : Rs.length ≤ 12
  ok : ∀ r ∈ Rs, ruleB r = true
  f : cntD (Rs.map hdD) "fresh" ≤ 1
  w : cntD (Rs.map hdD) "wheel" ≤ 1
theorem Vr.b {Rs : List D} (h : Vr Rs) : rulesB (.tup Rs) = true := by
  have l := h.len
  show (decide ((Rs.length : Int) ≤ 12) && (Rs.all ruleB && (decide (cntD (Rs.map hdD) "fresh" ≤ 1) && decide (cntD (Rs.map hdD) "wheel" ≤ 1)))) = true
  rw [decide_eq_true (by omega : (Rs.length : Int) ≤ 12), List.all_eq_true.mpr h.ok, decide_eq_true h.f, decide_eq_true h.w]
  rfl
theorem Vr.good {Rs : List D} (h : Vr Rs) : good (.tup Rs) = true := by
  have l := h.len
  rw [good_tup, List.all_eq_true.mpr fun r hr => good_rule (rf_of (h.ok r hr)), decide_eq_true (by omega : Rs.length < 16000)]
  rfl
theorem cnt_pre (w : Str) (a b : List D) : cntD ((a ++ b).map hdD) w = cntD (a.map hdD) w + cntD (b.map hdD) w := by
  unfold cntD
  rw [List.map_append, List.countP_append]
  omega
theorem cnt_pos (w : Str) (a : List D) : 0 ≤ cntD (a.map hdD) w := by
  unfold cntD
  omega
theorem Vr.pre {a b : List D} (h : Vr (a ++ b)) : Vr a := by
  have hf := h.f
  have hw := h.w
  have hl := h.len
  rw [cnt_pre] at hf hw
  rw [List.length_append] at hl
  have := cnt_pos "fresh" b
  have := cnt_pos "wheel" b
  exact ⟨by omega, fun r hr => h.ok r (List.mem_append_left _ hr), by omega, by omega⟩
theorem is_rules_call {Rs : List D} (h : Vr Rs) (ρ : Env) : callG [false] false F_is_rules [.val (.tup Rs)] ρ = .ok (.bl true) ρ := by
  have := is_rules_eq (.tup Rs) (good_okRules h.good)
  rw [h.b] at this
  exact call_val rfl rfl this (.inl rfl)
theorem check_rules_call {Rs : List D} (h : Vr Rs) (ρ : Env) : callG [false] false F_check_rules [.val (.tup Rs)] ρ = .ok .non ρ := by
  have c := is_rules_call h
  refine call_val rfl rfl ?_ (.inl rfl)
  generalize D.tup Rs = TR at *
  simp [F_check_rules, m_check_rules, c]
/-- the text of rules -/
def textS (Rs : List D) : Str := Txt.join ⟨#[10]⟩ (Rs.map rowS)
theorem rows_sum : ∀ {Rs : List D}, (∀ r ∈ Rs, RF r) → ((Rs.map rowS).map (·.length)).sum ≤ 90 * Rs.length
  | [], _ => Nat.zero_le _
  | r :: Rs, h => by
    have := rows_sum (Rs := Rs) fun q hq => h q (List.mem_cons_of_mem _ hq)
    have := (row_ok (h r List.mem_cons_self)).2.2.1
    rw [List.map_cons, List.map_cons, List.sum_cons, List.length_cons]
    omega
theorem join_text {Rs : List D} (h : Vr Rs) : joinD (.str "\n") (.lst ((Rs.map rowS).map D.str)) = some (.str (textS Rs)) := by
  have rf : ∀ r ∈ Rs, RF r := fun r hr => rf_of (h.ok r hr)
  have := rows_sum rf
  have := h.len
  rw [nl10]
  refine joinD_of (.inl rfl) sm10 (fun w hm => ?_) (by rw [one_len, List.length_map]; omega)
  obtain ⟨r, hr, rfl⟩ := List.mem_map.mp hm
  exact (row_ok (rf r hr)).1
theorem show_rules_call {Rs : List D} (h : Vr Rs) (ρ : Env) : callG [false] false F_show_rules [.val (.tup Rs)] ρ = .ok (.str (textS Rs)) ρ := by
  have cc := check_rules_call h
  obtain ⟨y, cp⟩ := comp_pure (mt := tYesM) (me := (eCall [false] false F_shown_rule (aCons (rVar 1) aNil))) (i := 1) (fun s => [.v (.tup Rs), s]) (fun _ _ => rfl) (fun _ => true) (fun r => .str (rowS r)) Rs (fun _ _ => by simp) (fun r hr _ => by
    have c := shown_rule_call (rf_of (h.ok r hr))
    simp [c]) [] .no
  have fl : Rs.filter (fun _ => true) = Rs := List.filter_eq_self.mpr fun _ _ => rfl
  have mm : Rs.map (fun r => D.str (rowS r)) = (Rs.map rowS).map D.str := by rw [List.map_map]; rfl
  rw [List.nil_append, fl, mm] at cp
  have jo := join_text h
  have it : itemsD (.tup Rs) = some Rs := rfl
  refine call_val rfl rfl ?_ (.inl rfl)
  clear fl mm
  generalize textS Rs = TX at *
  generalize (Rs.map rowS).map D.str = RL at *
  generalize D.tup Rs = TR at *
  simp [F_show_rules, m_show_rules, cc, it, cp, eJoin, isStr, jo, backE, wipeE, keepV]
def bRd : SM := (sSeq (sSet 1 (eOp2 addD (rVar 1) (rOf (eTup (lCons (eCall [false] false F_rule_in (aCons (rVar 3) aNil)) lNil))))) (sIf (tNotM (tOfE (eCall [false] false F_is_rules (aCons (rVar 1) aNil)))) (sRaiseR "NoText" (eVar 2)) sNil))
/-! the wheel's words -/
def w1 : D → D
  | .tup [_, b] => b
  | _ => .non
end NV

set_option Elab.async false
set_option linter.all false
set_option maxRecDepth 100000
set_option maxHeartbeats 4000000
namespace NV
open PySem PySem.Spec PyProof.Rows L2
/-! the law: rows, pure things, right -/
theorem lr_plain {r : D} {w : Str} {ps : List D} (hr : r = .tup ps) (h0 : ixD r (.int 0) = some (.str w)) (q1 : eqO (.str w) (.str "never") = some (.bl false)) (q2 : eqO (.str w) (.str "wheel") = some (.bl false)) (hp : ∀ p ∈ ps, leafP p) (h5 : ps.length ≤ 5) (hw : wds r = ps.map stS) (ρ : Env) : callG [false] false F__law_row [.val r] ρ = .ok (.str (rowS r)) ρ := by
  obtain ⟨y, cp⟩ := comp_pure (mt := tYesM) (me := (eCallB strZ (aCons (rVar 2) aNil))) (i := 2) (fun s => [.v r, .no, s, .no]) (fun _ _ => rfl) (fun _ => true) (fun d => .str (stS d)) ps (fun _ _ => by simp) (fun d hm _ => by
    have := (strZ_ok (hp d hm)).1
    simp [this]) [] .no
  have fl : ps.filter (fun _ => true) = ps := List.filter_eq_self.mpr fun _ _ => rfl
  have mm : ps.map (fun d => D.str (stS d)) = (wds r).map D.str := by rw [hw, List.map_map]; rfl
  rw [List.nil_append, fl, mm] at cp
  have jo : joinD (.str " ") (.lst ((wds r).map D.str)) = some (.str (rowS r)) := join_row (fun x hx => by
    rw [hw] at hx
    obtain ⟨d, hm, rfl⟩ := List.mem_map.mp hx
    exact (strZ_ok (hp d hm)).2.1) (by rw [hw, List.length_map]; omega) (.inl rfl)
  have it : itemsD r = some ps := by rw [hr]; rfl
  refine call_val rfl rfl ?_ (.inl rfl)
  clear hw mm fl hr
  generalize (wds r).map D.str = WL at *
  generalize rowS r = RS at *
  simp [F__law_row, m__law_row, h0, q1, q2, it, cp, eJoin, isStr, jo, backE, wipeE, keepV]
theorem law_row_call {r : D} (h : RF r) (ρ : Env) : callG [false] false F__law_row [.val r] ρ = .ok (.str (rowS r)) ρ := by
  obtain ⟨_, _, wo⟩ := wds_ok h
  cases h with
  | num w hw n h =>
    refine lr_plain rfl rfl (by rcases hw with rfl | rfl | rfl <;> kernel_rfl) (by rcases hw with rfl | rfl | rfl <;> kernel_rfl) (fun p hp => ?_) (by simp) rfl ρ
    simp only [List.mem_cons, List.not_mem_nil, or_false] at hp
    rcases hp with rfl | rfl
    · exact .inr ⟨w, rfl, wo w List.mem_cons_self⟩
    · exact .inl ⟨n, rfl, h⟩
  | behind a b ha hb =>
    refine lr_plain rfl rfl (by kernel_rfl) (by kernel_rfl) (fun p hp => ?_) (by simp) rfl ρ
    simp only [List.mem_cons, List.not_mem_nil, or_false] at hp
    rcases hp with rfl | rfl | rfl
    · exact .inr ⟨_, rfl, wo_by (by decide +kernel)⟩
    · exact .inr ⟨_, rfl, wo_name ha⟩
    · exact .inr ⟨_, rfl, wo_name hb⟩
  | most a n s ha hn hs =>
    refine lr_plain rfl rfl (by kernel_rfl) (by kernel_rfl) (fun p hp => ?_) (by simp) rfl ρ
    simp only [List.mem_cons, List.not_mem_nil, or_false] at hp
    rcases hp with rfl | rfl | rfl | rfl
    · exact .inr ⟨_, rfl, wo_by (by decide +kernel)⟩
    · exact .inr ⟨_, rfl, wo_name ha⟩
    · exact .inl ⟨n, rfl, hn⟩
    · exact .inl ⟨s, rfl, hs⟩
  | never a ds s e ha h6 hl h0 hs he =>
    rw [wds_never] at wo
    obtain ⟨R, hR⟩ : ∃ R, R = D.tup [.str "never", .str a, .tup (ds.map fun d => D.int ((d : Nat) : Int)), .int (s : Int), .int (e : Int)] := ⟨_, rfl⟩
    have w0 : ixD R (.int 0) = some (.str "never") := by rw [hR]; rfl
    have w1 : ixD R (.int 1) = some (.str a) := by rw [hR]; rfl
    have w2 : ixD R (.int 2) = some (.tup (ds.map fun d => D.int ((d : Nat) : Int))) := by rw [hR]; rfl
    have w3 : ixD R (.int 3) = some (.int (s : Int)) := by rw [hR]; rfl
    have w4 : ixD R (.int 4) = some (.int (e : Int)) := by rw [hR]; rfl
    have q1 : eqO (.str "never") (.str "never") = some (.bl true) := by kernel_rfl
    have z1 : strZ [.int (s : Int)] = some (.str (numS (s : Int))) := strI_ok (i := (s : Int)) (by omega) (by omega)
    have z2 : strZ [.int (e : Int)] = some (.str (numS (e : Int))) := strI_ok (i := (e : Int)) (by omega) (by omega)
    rw [← hR]
    have rw_ : rowS R = Txt.join ⟨#[32]⟩ (["never", a, dayT ds, numS (s : Int), numS (e : Int)] : List Str) := by
      unfold rowS
      rw [hR, wds_never]
    have j2 : joinD (.str " ") (.lst [.str "never", .str a, .str (dayT ds), .str (numS (s : Int)), .str (numS (e : Int))]) = some (.str (rowS R)) := by
      rw [rw_]
      exact join_row wo (by simp) (.inl rfl)
    obtain ⟨y, cp⟩ := comp_pure (mt := tYesM) (me := (eCallB strZ (aCons (rVar 3) aNil))) (i := 3) (fun x => [.v R, .no, .no, x]) (fun _ _ => rfl) (fun _ => true) (fun d => .str (stS d)) (ds.map fun d => D.int ((d : Nat) : Int)) (fun _ _ => by simp) (fun d hm _ => by
      obtain ⟨k, hk, rfl⟩ := List.mem_map.mp hm
      have := (strZ_ok (p := .int ((k : Nat) : Int)) (.inl ⟨k, rfl, by have := h6 k hk; omega⟩)).1
      generalize stS (.int ((k : Nat) : Int)) = SK at *
      generalize ((k : Nat) : Int) = kk at *
      simp [this]) [] .no
    have fl : (ds.map fun d => D.int ((d : Nat) : Int)).filter (fun _ => true) = ds.map fun d => D.int ((d : Nat) : Int) := List.filter_eq_self.mpr fun _ _ => rfl
    have mm : (ds.map fun d => D.int ((d : Nat) : Int)).map (fun d => D.str (stS d)) = (ds.map fun d : Nat => numS (d : Int)).map D.str := by rw [List.map_map, List.map_map]; rfl
    rw [List.nil_append, fl, mm] at cp
    have wd : ∀ x ∈ (ds.map fun d : Nat => numS (d : Int)), Wo x := fun x hx => by
      obtain ⟨k, hk, rfl⟩ := List.mem_map.mp hx
      exact wo_num (by have := h6 k hk; omega)
    have s8 := sum_le8 fun x hx => (wd x hx).eight
    rw [List.length_map] at s8
    have j1 : joinD (.str "") (.lst ((ds.map fun d : Nat => numS (d : Int)).map D.str)) = some (.str (dayT ds)) := by
      rw [em0]
      exact joinD_of (.inl rfl) sm0 (fun x hx => (wd x hx).sm) (by
        have l0 : (⟨#[]⟩ : Str).length = 0 := rfl
        rw [l0]
        omega)
    have it : itemsD (.tup (ds.map fun d => D.int ((d : Nat) : Int))) = some (ds.map fun d => D.int ((d : Nat) : Int)) := rfl
    refine call_val rfl rfl ?_ (.inl rfl)
    clear fl mm wd rw_ hR wo
    generalize (ds.map fun d : Nat => numS (d : Int)).map D.str = NL at *
    generalize hLL : D.lst [.str "never", .str a, .str (dayT ds), .str (numS (s : Int)), .str (numS (e : Int))] = LL at *
    generalize rowS R = RS at *
    generalize dayT ds = DT at *
    generalize numS (s : Int) = N1 at *
    generalize numS (e : Int) = N2 at *
    generalize (ds.map fun d => D.int ((d : Nat) : Int)) = DL at *
    generalize D.tup DL = TD at *
    simp [F__law_row, m__law_row, w0, w1, w2, w3, w4, q1, it, cp, eJoin, isStr, j1, z1, z2, hLL, j2, backE, wipeE, keepV]
  | wheel ws h0 h8 hw =>
    obtain ⟨R, hR⟩ : ∃ R, R = D.tup [.str "wheel", .tup (ws.map D.str)] := ⟨_, rfl⟩
    have w0 : ixD R (.int 0) = some (.str "wheel") := by rw [hR]; rfl
    have w1 : ixD R (.int 1) = some (.tup (ws.map D.str)) := by rw [hR]; rfl
    have q1 : eqO (.str "wheel") (.str "never") = some (.bl false) := by kernel_rfl
    have q2 : eqO (.str "wheel") (.str "wheel") = some (.bl true) := by kernel_rfl
    have wl : ∀ w ∈ ws, Wo w := fun w hm => wo_name (hw w hm)
    have jo := join_row (d := .tup (ws.map D.str)) wl (by omega) (.inr rfl)
    have jl := join_len ⟨#[32]⟩ ws
    have s8 := sum_le8 fun w hm => (wl w hm).eight
    rw [one_len] at jl
    have e6 : ("wheel " : Str) = "wheel" ++ ⟨#[32]⟩ := by decide +kernel
    have l6 : ("wheel " : Str).length = 6 := by decide
    have ad : addD (.str "wheel ") (.str (Txt.join ⟨#[32]⟩ ws)) = some (.str (rowS R)) := by
      show (if ("wheel " : Str).length + (Txt.join ⟨#[32]⟩ ws).length ≤ sizeLine then some (D.str ("wheel " ++ Txt.join ⟨#[32]⟩ ws)) else none) = _
      rw [if_pos (by rw [l6, sizeLine_eq]; omega)]
      congr 2
      unfold rowS
      rw [hR, wds_wheel, e6, show Txt.join ⟨#[32]⟩ (("wheel" : Str) :: ws) = Str.join ⟨#[32]⟩ (("wheel" : Str) :: ws) from StrLaws.glued_eq_join _ _, show Txt.join ⟨#[32]⟩ ws = Str.join ⟨#[32]⟩ ws from StrLaws.glued_eq_join _ _]
      cases ws with
      | nil => exact absurd rfl h0
      | cons x ws => rfl
    rw [← hR]
    refine call_val rfl rfl ?_ (.inl rfl)
    clear hR
    generalize D.tup (ws.map D.str) = WS at *
    generalize rowS R = RS at *
    generalize Txt.join ⟨#[32]⟩ ws = JJ at *
    simp [F__law_row, m__law_row, w0, w1, q1, q2, eJoin, isStr, jo, ad]
/-! pure things -/
def pur : Nat → D → Prop
  | 0, d => leafP d
  | n + 1, d => leafP d ∨ ∃ xs, d = .tup xs ∧ ∀ x ∈ xs, pur n x
theorem pur_leaf {d : D} (h : leafP d) : ∀ n, pur n d
  | 0 => h
  | _ + 1 => .inl h
theorem okL_of {n : Nat} : ∀ l : List D, (∀ d ∈ l, okD n d = true) → okL n l = true
  | [], _ => by cases n <;> rfl
  | d :: l, h => by
    show (okD n d && okL n l) = true
    rw [h d List.mem_cons_self, okL_of l fun d hd => h d (List.mem_cons_of_mem _ hd)]
    rfl
theorem leaf_same {d : D} (h : leafP d) : eqD d d = true ∧ ∀ k, okD k d = true := by
  rcases h with ⟨n, rfl, _⟩ | ⟨x, rfl, _⟩
  · exact ⟨by rw [eqD_int]; exact decide_eq_true rfl, fun k => by cases k <;> rfl⟩
  · exact ⟨by rw [eqD_str]; exact decide_eq_true rfl, fun k => by cases k <;> rfl⟩
theorem eqvAll_refl : ∀ l : List D, (∀ d ∈ l, eqD d d = true) → PyData.eqvAll (toPyL l) (toPyL l) = true
  | [], _ => rfl
  | d :: l, h => by
    rw [toPyL, PyData.eqvAll, eqvAll_refl l fun d hd => h d (List.mem_cons_of_mem _ hd), Bool.and_true]
    exact h d List.mem_cons_self
theorem pur_same : ∀ (n : Nat) {d : D}, pur n d → eqD d d = true ∧ ∀ k, n ≤ k → okD k d = true
  | 0, d, h => ⟨(leaf_same h).1, fun k _ => (leaf_same h).2 k⟩
  | n + 1, d, h => by
    rcases h with h | ⟨xs, rfl, hx⟩
    · exact ⟨(leaf_same h).1, fun k _ => (leaf_same h).2 k⟩
    · refine ⟨?_, fun k hk => ?_⟩
      · unfold eqD
        rw [toPy, PyData.eqv]
        exact eqvAll_refl xs fun x hm => (pur_same n (hx x hm)).1
      · cases k with
        | zero => omega
        | succ k =>
          rw [okD]
          exact okL_of xs fun x hm => (pur_same n (hx x hm)).2 k (by omega)
theorem neS_self (x : Str) : neO (.str x) (.str x) = some (.bl false) := by
  show (if okD 60 (.str x) = true ∧ okD 60 (.str x) = true then some (D.bl (!eqD (.str x) (.str x))) else none) = _
  rw [if_pos ⟨rfl, rfl⟩, eqD_str, decide_eq_true rfl]
  rfl
theorem pur_part {p : D} (h : partP p) : pur 1 p := by
  rcases h with h | ⟨ds, rfl, hd, _⟩
  · exact .inl h
  · exact .inr ⟨ds, rfl, hd⟩
theorem pur_rule {r : D} (h : RF r) : pur 2 r := by
  obtain ⟨w, ps, rfl, _, _, hp, _⟩ := rf_parts h
  exact .inr ⟨ps, rfl, fun p hm => pur_part (hp p hm)⟩
theorem Vr.pur {Rs : List D} (h : Vr Rs) : pur 3 (.tup Rs) := .inr ⟨Rs, rfl, fun r hr => pur_rule (rf_of (h.ok r hr))⟩
/-! right -/
end NV

set_option Elab.async false
set_option linter.all false
set_option maxRecDepth 100000
set_option maxHeartbeats 4000000
namespace NV
open PySem PySem.Spec PyProof.Rows L2
/-! draws: rules that are rules -/
theorem LET_has : ∀ k : Nat, k < 26 → (97 + k) ∈ LET.cps.toList := by decide +kernel
theorem nm_of {x : Str} (h : lowS x) (h1 : 1 ≤ x.length) (h8 : x.length ≤ 8) : nm x := by
  show (decide ((1 : Int) ≤ (x.length : Int)) && decide ((x.length : Int) ≤ 8) && signOk x) = true
  rw [decide_eq_true (by omega : (1 : Int) ≤ (x.length : Int)), decide_eq_true (by omega : (x.length : Int) ≤ 8)]
  refine List.all_eq_true.mpr fun c hc => ?_
  have := h.2 c hc
  rw [inS_sign]
  have l := LET_has (c - 97) (by omega)
  rw [show 97 + (c - 97) = c by omega] at l
  exact decide_eq_true l
theorem join_onesN {cs : List Nat} (h : ∀ c ∈ cs, 97 ≤ c ∧ c ≤ 122) (hl : cs.length ≤ 8) : ∃ x, joinD (.str "") (.lst (cs.map fun c => D.str ⟨#[c]⟩)) = some (.str x) ∧ lowS x ∧ x.length = cs.length := by
  have hs : seqStrs (.lst (cs.map fun c => D.str ⟨#[c]⟩)) = some (cs.map fun c => (⟨#[c]⟩ : Str)) := by
    show strsOf _ = _
    clear h hl
    induction cs with
    | nil => rfl
    | cons c cs ih =>
      show (strsOf (cs.map fun c => D.str ⟨#[c]⟩)).map _ = _
      rw [ih]
      rfl
  have hc : (Txt.join ⟨#[]⟩ (cs.map fun c => (⟨#[c]⟩ : Str))).cps.toList = cs := by
    rw [join_empty, List.map_map]
    clear h hl hs
    induction cs with
    | nil => rfl
    | cons c cs ih =>
      rw [List.map_cons, List.flatten_cons, ih]
      rfl
  have hlen : (Txt.join ⟨#[]⟩ (cs.map fun c => (⟨#[c]⟩ : Str))).length = cs.length := by
    show (Txt.join ⟨#[]⟩ (cs.map fun c => (⟨#[c]⟩ : Str))).cps.size = _
    rw [← Array.length_toList, hc]
  have hsum : ((cs.map fun c => (⟨#[c]⟩ : Str)).map (·.length)).sum = cs.length := by
    clear h hl hs hc hlen
    induction cs with
    | nil => rfl
    | cons c cs ih =>
      rw [List.map_cons, List.map_cons, List.sum_cons, ih, List.length_cons]
      show 1 + _ = _
      omega
  refine ⟨Txt.join ⟨#[]⟩ (cs.map fun c => (⟨#[c]⟩ : Str)), ?_, ⟨by omega, fun c hm => h c (by rw [hc] at hm; exact hm)⟩, hlen⟩
  show (match D.str ⟨#[]⟩, seqStrs (.lst (cs.map fun c => D.str ⟨#[c]⟩)) with
    | .str x, some ys => if (ys.map (fun y : Str => y.length)).sum + ys.length * x.length ≤ 16777216 ∧ strGb (Txt.join x ys) = true then some (D.str (Txt.join x ys)) else none
    | _, _ => none) = _
  rw [hs]
  show (if _ ∧ _ then _ else _) = _
  rw [if_pos ⟨by rw [hsum, List.length_map]; show _ + cs.length * 0 ≤ _; omega, strGb_by (by omega) fun c hm => by
    rw [hc] at hm
    have := h c hm
    omega⟩]
theorem any_nameN (s : Pu) : ∃ (s' : Pu) (x : Str), F__law_any_name [s.d] = .ok (.str x) [s'.d] ∧ nm x := by
  obtain ⟨W, hW⟩ : ∃ W : List D, W = (["song", "singer", "behind", "never", "most", "fresh", "wheel", "any", "turn", "least", "ahead", "hand"] : List Str).map D.str := ⟨_, rfl⟩
  obtain ⟨s1, r, e1, _, _⟩ := pick_call s [.v (.lst W), .no, .no] 3 (by decide) (by decide)
  have wl : W.length = 12 := by rw [hW]; rfl
  have wb : W.length ≤ 16777216 := by omega
  have hWs : [D.str "song", .str "singer", .str "behind", .str "never", .str "most", .str "fresh", .str "wheel", .str "any", .str "turn", .str "least", .str "ahead", .str "hand"] = W := hW.symm
  by_cases h : r = 0
  · subst h
    obtain ⟨s2, j, e2, j0, j1⟩ := pick_call s1 [.v (.lst W), .no, .no] 12 (by decide) (by decide)
    obtain ⟨z, ez, hz⟩ := ix_pick (L := W) j0 (by rw [wl]; exact j1)
    have hz' : ∃ x : Str, z = .str x ∧ nm x := by
      rw [hW] at hz
      obtain ⟨x, hx, rfl⟩ := List.mem_map.mp hz
      have al : (["song", "singer", "behind", "never", "most", "fresh", "wheel", "any", "turn", "least", "ahead", "hand"] : List Str).all (fun x => nameB (.str x)) = true := by decide +kernel
      exact ⟨x, rfl, List.all_eq_true.mp al x hx⟩
    obtain ⟨x, rfl, hx⟩ := hz'
    refine ⟨s2, x, ?_, hx⟩
    simp only [F__law_any_name, m__law_any_name, runF_eq, slots_p, slots_nil]
    simp [hWs, wb, e1, e2, ez]
  · obtain ⟨s2, j, e2, j0, j1⟩ := pick_call s1 [.v (.lst W), .v (.str "abcdefghijklmnopqrstuvwxyz"), .no] 8 (by decide) (by decide)
    have rg := rng_nat (n := (1 + j).toNat) (by omega)
    rw [show (((1 + j).toNat : Nat) : Int) = 1 + j by omega] at rg
    obtain ⟨s3, y, out, e3, hlen, hP⟩ := comp_each (S := Pu) (mt := tYesM) (me := eOp2 ixD (rVar 2) (rOf (eCall [true, false] false F__law_pick (aCons (rVar 0) (aCons (rOf (eC (.int 26))) aNil))))) (i := 3) (fun s x => [.p s.d, .v (.lst W), .v (.str "abcdefghijklmnopqrstuvwxyz"), x]) (fun _ _ _ => rfl) oneL
      ((List.range (1 + j).toNat).map fun i => D.int ((i : Nat) : Int)) (fun s d _ => by simp) (fun s d _ => by
        obtain ⟨s', r, e, r0, r1⟩ := pick_call s [.v (.lst W), .v (.str "abcdefghijklmnopqrstuvwxyz"), .v d] 26 (by decide) (by decide)
        obtain ⟨z, hz, ho⟩ := letter_at r0 r1
        exact ⟨s', z, by simp [e, hz], ho⟩) [] s2 .no
    obtain ⟨cs, hcs, rfl⟩ := ones hP
    rw [List.length_map, List.length_map, List.length_range] at hlen
    obtain ⟨x, hj, hx⟩ := join_onesN hcs (by omega)
    refine ⟨s3, x, ?_, nm_of hx.1 (by omega) (by omega)⟩
    simp only [F__law_any_name, m__law_any_name, runF_eq, slots_p, slots_nil]
    simp [hWs, wb, e1, h, e2, rg, e3, eJoin, isStr, hj, backE, wipeE, keepV]
theorem any_callN (s : Pu) (ρ : Env) : ∃ (s' : Pu) (x : Str), callG [true] false F__law_any_name [.own 0] (.p s.d :: ρ) = .ok (.str x) (.p s'.d :: ρ) ∧ nm x := by
  obtain ⟨s', x, h, h2⟩ := any_nameN s
  exact ⟨s', x, call_own (i := 0) rfl rfl h rfl, h2⟩
theorem kind_okN (s : Pu) : ∃ (s' : Pu) (x : Str), F__law_kind [s.d] = .ok (.str x) [s'.d] ∧ kindB (.str x) = true := by
  obtain ⟨s1, x, e1, hn⟩ := any_callN s [.no]
  have hw : inD (.str x) (.tup [.str "any", .str "fresh"]) = some (.bl (decide (x ∈ (["any", "fresh"] : List Str)))) := in_strs x ["any", "fresh"]
  by_cases h : x ∈ (["any", "fresh"] : List Str)
  · rw [decide_eq_true h] at hw
    obtain ⟨y, hy, ha, hk⟩ : ∃ y : Str, slD (.str x) none (some 7) = some (.str y) ∧ (∃ z : Str, addD (.str y) (.str "s") = some (.str z) ∧ kindB (.str z) = true) ∧ True := by
      simp only [List.mem_cons, List.not_mem_nil, or_false] at h
      rcases h with rfl | rfl
      · exact ⟨"any", by kernel_rfl, ⟨"anys", by kernel_rfl, by decide +kernel⟩, trivial⟩
      · exact ⟨"fresh", by kernel_rfl, ⟨"freshs", by kernel_rfl, by decide +kernel⟩, trivial⟩
    obtain ⟨z, hz, kz⟩ := ha
    have ix : ixD (.lst [.str x, .str z]) (.int 1) = some (.str z) := rfl
    refine ⟨s1, z, ?_, kz⟩
    have i1 : intD [.bl true] = some (.int 1) := rfl
    simp only [F__law_kind, m__law_kind, runF_eq, slots_p, slots_nil]
    simp [e1, eSl, oNo, oSome, asI, hy, hz, hw, i1, ix]
  · rw [decide_eq_false h] at hw
    obtain ⟨_, h1, h8⟩ := name_lo hn
    obtain ⟨y, hy, yl⟩ : ∃ y : Str, slD (.str x) none (some 7) = some (.str y) ∧ y.length ≤ 8 := ⟨cutS x none (some 7), rfl, Nat.le_trans (cutS_length x _ _) h8⟩
    have ha : addD (.str y) (.str "s") = some (.str (y ++ "s")) := add_str (by show y.length + 1 ≤ _; omega)
    have ix : ixD (.lst [.str x, .str (y ++ "s")]) (.int 0) = some (.str x) := rfl
    have i0 : intD [.bl false] = some (.int 0) := rfl
    refine ⟨s1, x, ?_, ?_⟩
    · generalize y ++ "s" = Z at *
      simp only [F__law_kind, m__law_kind, runF_eq, slots_p, slots_nil]
      simp [e1, eSl, oNo, oSome, asI, hy, ha, hw, i0, ix]
    · simp only [List.mem_cons, List.not_mem_nil, or_false, not_or] at h
      show (nameB (.str x) && (!decide (x = "any") && !decide (x = "fresh"))) = true
      rw [show nameB (.str x) = true from hn, decide_eq_false h.1, decide_eq_false h.2]
      rfl
theorem kind_callN (s : Pu) (ρ : Env) : ∃ (s' : Pu) (x : Str), callG [true] false F__law_kind [.own 0] (.p s.d :: ρ) = .ok (.str x) (.p s'.d :: ρ) ∧ kindB (.str x) = true := by
  obtain ⟨s', x, h, h2⟩ := kind_okN s
  exact ⟨s', x, call_own (i := 0) rfl rfl h rfl, h2⟩
theorem bet_of {lo hi i : Int} (h0 : lo ≤ i) (h1 : i ≤ hi) : betB lo hi (.int i) = true := by
  show (decide (lo ≤ i) && decide (i ≤ hi)) = true
  rw [decide_eq_true h0, decide_eq_true h1]
  rfl
theorem rule01 (s : Pu) (way : Int) (hw : way = 0 ∨ way = 1) : ∃ (s' : Pu) (z : D), F__law_rule [s.d, .int way] = .ok z [s'.d] ∧ ruleB z = true := by
  obtain ⟨s1, i, e1, i0, i1⟩ := number_call s [.v (.int way), .no, .no, .no, .no, .no, .no] 0 99999 (by decide) (by decide) (by decide)
  rcases hw with rfl | rfl
  · have ix : ixD (.lst [.str "song", .str "singer"]) (.int 0) = some (.str "song") := rfl
    refine ⟨s1, .tup [.str "song", .int i], ?_, (show betB 0 99999 (.int i) = true from bet_of i0 i1)⟩
    simp only [F__law_rule, m__law_rule, runF_eq, slots_p, slots_v, slots_nil]
    simp [ix, e1]
  · have ix : ixD (.lst [.str "song", .str "singer"]) (.int 1) = some (.str "singer") := rfl
    refine ⟨s1, .tup [.str "singer", .int i], ?_, (show betB 0 99999 (.int i) = true from bet_of i0 i1)⟩
    simp only [F__law_rule, m__law_rule, runF_eq, slots_p, slots_v, slots_nil]
    simp [ix, e1]
theorem rule2 (s : Pu) : ∃ (s' : Pu) (z : D), F__law_rule [s.d, .int 2] = .ok z [s'.d] ∧ ruleB z = true := by
  obtain ⟨s1, x, e1, hx⟩ := kind_callN s [.v (.int 2), .no, .no, .no, .no, .no, .no]
  obtain ⟨s2, y, e2, hy⟩ := kind_callN s1 [.v (.int 2), .no, .no, .no, .no, .no, .no]
  refine ⟨s2, .tup [.str "behind", .str x, .str y], ?_, ?_⟩
  · simp only [F__law_rule, m__law_rule, runF_eq, slots_p, slots_v, slots_nil]
    simp [e1, e2]
  · show (kindB (.str x) && kindB (.str y)) = true
    rw [hx, hy]
    rfl
theorem rule4 (s : Pu) : ∃ (s' : Pu) (z : D), F__law_rule [s.d, .int 4] = .ok z [s'.d] ∧ ruleB z = true := by
  obtain ⟨s1, x, e1, hx⟩ := kind_callN s [.v (.int 4), .no, .no, .no, .no, .no, .no]
  obtain ⟨s2, i, e2, i0, i1⟩ := number_call s1 [.v (.int 4), .no, .no, .no, .no, .no, .no] 1 99 (by decide) (by decide) (by decide)
  obtain ⟨s3, j, e3, j0, j1⟩ := number_call s2 [.v (.int 4), .no, .no, .no, .no, .no, .no] 0 99999 (by decide) (by decide) (by decide)
  refine ⟨s3, .tup [.str "most", .str x, .int i, .int j], ?_, ?_⟩
  · simp only [F__law_rule, m__law_rule, runF_eq, slots_p, slots_v, slots_nil]
    simp [e1, e2, e3]
  · show (kindB (.str x) && (betB 1 99 (.int i) && betB 0 99999 (.int j))) = true
    rw [hx, bet_of i0 i1, bet_of j0 j1]
    rfl
theorem rule5 (s : Pu) : ∃ (s' : Pu) (z : D), F__law_rule [s.d, .int 5] = .ok z [s'.d] ∧ ruleB z = true := by
  obtain ⟨s3, j, e3, j0, j1⟩ := number_call s [.v (.int 5), .no, .no, .no, .no, .no, .no] 0 99999 (by decide) (by decide) (by decide)
  refine ⟨s3, .tup [.str "fresh", .int j], ?_, (show betB 0 99999 (.int j) = true from bet_of j0 j1)⟩
  simp only [F__law_rule, m__law_rule, runF_eq, slots_p, slots_v, slots_nil]
  simp [e3]
theorem rule6 (s : Pu) : ∃ (s' : Pu) (z : D), F__law_rule [s.d, .int 6] = .ok z [s'.d] ∧ ruleB z = true := by
  obtain ⟨s1, r, e1, r0, r1⟩ := pick_call s [.v (.int 6), .no, .no, .no, .no, .no, .no] 4 (by decide) (by decide)
  obtain ⟨n, ez, hn1, hn⟩ : ∃ n : Nat, ixD (.lst [.int 1, .int 2, .int 7, .int 8]) (.int r) = some (.int (n : Int)) ∧ 1 ≤ n ∧ n ≤ 8 := by
    have : r = 0 ∨ r = 1 ∨ r = 2 ∨ r = 3 := by omega
    rcases this with rfl | rfl | rfl | rfl
    · exact ⟨1, rfl, by decide, by decide⟩
    · exact ⟨2, rfl, by decide, by decide⟩
    · exact ⟨7, rfl, by decide, by decide⟩
    · exact ⟨8, rfl, by decide, by decide⟩
  have rg := rng_nat (n := n) (by omega)
  obtain ⟨s2, y, out, e2, hlen, hP⟩ := comp_each (S := Pu) (mt := tYesM) (me := eCall [true] false F__law_any_name (aCons (rVar 0) aNil)) (i := 7) (fun s x => [.p s.d, .v (.int 6), .v (.int (n : Int)), .no, .no, .no, .no, x]) (fun _ _ _ => rfl) (fun z => nameB z = true)
    ((List.range n).map fun i => D.int ((i : Nat) : Int)) (fun s d _ => by simp) (fun s d _ => by
      obtain ⟨s', x, e, hx⟩ := any_callN s [.v (.int 6), .v (.int (n : Int)), .no, .no, .no, .no, .v d]
      exact ⟨s', .str x, by simp [e], hx⟩) [] s1 .no
  rw [List.length_map, List.length_range] at hlen
  have tt : tuple3D [.lst out] = some (.tup out) := rfl
  refine ⟨s2, .tup [.str "wheel", .tup out], ?_, ?_⟩
  · simp only [F__law_rule, m__law_rule, runF_eq, slots_p, slots_v, slots_nil]
    simp [e1, ez, rg, e2, tt, backE, wipeE, keepV]
  · show (decide ((1 : Int) ≤ (out.length : Int)) && (decide ((out.length : Int) ≤ 8) && out.all nameB)) = true
    rw [decide_eq_true (by omega : (1 : Int) ≤ (out.length : Int)), decide_eq_true (by omega : (out.length : Int) ≤ 8), List.all_eq_true.mpr hP]
    rfl
theorem comp_sub {S : Type} {mt : TM} {me : EM} {i : Nat} (e : S → Slot → Env) (hset : ∀ s x y, (e s x).set i y = e s y) (f : D → D) : ∀ (ds : List D), (∀ s, ∀ d ∈ ds, ∃ s' b, mt (e s (.v d)) = .ok b (e s' (.v d))) → (∀ s, ∀ d ∈ ds, me (e s (.v d)) = .ok (f d) (e s (.v d))) →
    ∀ (acc : List D) (s : S) (x : Slot), ∃ s' y, ∃ out : List D, compL (gNm i) mt me [i] ds acc (e s x) = .ok (acc ++ out.map f) (e s' y) ∧ out.Sublist ds
  | [], _, _, acc, s, x => ⟨s, x, [], by simp [compL], .slnil⟩
  | d :: ds, ht, he, acc, s, x => by
    obtain ⟨s1, b, h1⟩ := ht s d List.mem_cons_self
    have es : (wipeE (e s x) [i]).set i (.v d) = e s (.v d) := by rw [show wipeE (e s x) [i] = (e s x).set i .no from rfl, hset, hset]
    cases b with
    | true =>
      obtain ⟨s', y, out, e2, hl⟩ := comp_sub e hset f ds (fun s d hd => ht s d (List.mem_cons_of_mem _ hd)) (fun s d hd => he s d (List.mem_cons_of_mem _ hd)) (acc ++ [f d]) s1 (.v d)
      refine ⟨s', y, d :: out, ?_, hl.cons₂ d⟩
      unfold compL
      simp only [gNm_eq, es, h1, noexc_ok, bind_ok', if_true, he s1 d List.mem_cons_self]
      rw [e2]
      simp
    | false =>
      obtain ⟨s', y, out, e2, hl⟩ := comp_sub e hset f ds (fun s d hd => ht s d (List.mem_cons_of_mem _ hd)) (fun s d hd => he s d (List.mem_cons_of_mem _ hd)) acc s1 (.v d)
      refine ⟨s', y, out, ?_, hl.cons d⟩
      unfold compL
      simp only [gNm_eq, es, h1, noexc_ok, bind_ok', if_false, Bool.false_eq_true]
      rw [e2]
theorem days_of {out : List D} (h : out.Sublist ((List.range 7).map fun i => D.int ((i : Nat) : Int))) (h0 : out ≠ []) : daysB (.tup out) = true := by
  show (!out.isEmpty && (out.all (betB 0 6) && decide ((out.map toI).Pairwise (· < ·)))) = true
  have a1 : ((List.range 7).map fun i => D.int ((i : Nat) : Int)).all (betB 0 6) = true := by decide +kernel
  have a2 : (((List.range 7).map fun i => D.int ((i : Nat) : Int)).map toI).Pairwise (· < ·) := by decide +kernel
  have a3 : out.isEmpty = false := by cases out <;> first | exact absurd rfl h0 | rfl
  rw [a3, List.all_eq_true.mpr fun d hd => List.all_eq_true.mp a1 d (h.subset hd), decide_eq_true (a2.sublist (h.map toI))]
  rfl
theorem rule3 (s : Pu) : ∃ (s' : Pu) (z : D), F__law_rule [s.d, .int 3] = .ok z [s'.d] ∧ ruleB z = true := by
  have rg := rng_nat (n := 7) (by decide)
  have rg' : rng1 (.int 7) = some ((List.range 7).map fun i => D.int ((i : Nat) : Int)) := rg
  obtain ⟨s1, y, out, e1, hsub⟩ := comp_sub (S := Pu) (mt := tOfE (eOp2 eqO (rOf (eCall [true, false] false F__law_pick (aCons (rVar 0) (aCons (rOf (eC (.int 2))) aNil)))) (rOf (eC (.int 1))))) (me := eVar 6) (i := 6) (fun s x => [.p s.d, .v (.int 3), .no, .no, .no, .no, x, .no]) (fun _ _ _ => rfl) id
    ((List.range 7).map fun i => D.int ((i : Nat) : Int)) (fun s d _ => by
      obtain ⟨s', r, e, _, _⟩ := pick_call s [.v (.int 3), .no, .no, .no, .no, .v d, .no] 2 (by decide) (by decide)
      exact ⟨s', decide (r = 1), by simp [e]⟩) (fun s d _ => by simp) [] s .no
  have hlen := hsub.length_le
  rw [List.length_map, List.length_range] at hlen
  rw [List.nil_append, List.map_id] at e1
  have tt : tuple3D [.lst out] = some (.tup out) := rfl
  obtain ⟨s2, st, e2, st0, st1⟩ := number_call s1 [.v (.int 3), .no, .v (.tup out), .no, .no, .no, .no] 0 23 (by decide) (by decide) (by decide)
  obtain ⟨s3, r, e3, r0, r1⟩ := pick_call s2 [.v (.int 3), .no, .v (.tup out), .v (.int st), .no, .no, .no] (24 - st) (by omega) (by omega)
  obtain ⟨s4, j, e4, j0, j1⟩ := pick_call s3 [.v (.int 3), .no, .v (.tup out), .v (.int st), .no, .no, .no] 3 (by decide) (by decide)
  obtain ⟨en, ez, en0, en1⟩ : ∃ en : Int, ixD (.lst [.int 24, .int (st + 1), .int (st + 1 + r)]) (.int j) = some (.int en) ∧ st < en ∧ en ≤ 24 := by
    have : j = 0 ∨ j = 1 ∨ j = 2 := by omega
    rcases this with rfl | rfl | rfl
    · exact ⟨24, rfl, by omega, by decide⟩
    · exact ⟨st + 1, rfl, by omega, by omega⟩
    · exact ⟨st + 1 + r, rfl, by omega, by omega⟩
  obtain ⟨s5, x, e5, hx⟩ := kind_callN s4 [.v (.int 3), .no, .v (.tup out), .v (.int st), .v (.int en), .no, .no]
  have em : eqO (.tup out) (.tup []) = some (.bl out.isEmpty) := rfl
  obtain ⟨days, ed, hd⟩ : ∃ days : List D, (∃ (k : Int) (m : List D), intD [.bl out.isEmpty] = some (.int k) ∧ mul3 (.tup [.int 3]) (.int k) = some (.tup m) ∧ addD (.tup out) (.tup m) = some (.tup days)) ∧ daysB (.tup days) = true := by
    cases out with
    | nil => exact ⟨[.int 3], ⟨1, [.int 3], rfl, rfl, add_tup (by simp)⟩, by decide +kernel⟩
    | cons d out =>
      refine ⟨(d :: out) ++ [], ⟨0, [], rfl, rfl, add_tup (by simp only [List.length_cons, List.length_nil] at hlen ⊢; omega)⟩, ?_⟩
      rw [List.append_nil]
      exact days_of hsub (by simp)
  obtain ⟨k, m, d1, d2, d3⟩ := ed
  refine ⟨s5, .tup [.str "never", .str x, .tup days, .int st, .int en], ?_, ?_⟩
  · simp only [F__law_rule, m__law_rule, runF_eq, slots_p, slots_v, slots_nil]
    simp [rg', e1, tt, backE, wipeE, keepV, e2, e3, e4, ez, e5, em, d1, d2, d3]
  · show (kindB (.str x) && (daysB (.tup days) && (betB 0 23 (.int st) && (betB 1 24 (.int en) && decide (st < en))))) = true
    rw [hx, hd, bet_of st0 st1, bet_of (by omega) en1, decide_eq_true en0]
    rfl
theorem rule_ok (s : Pu) (way : Int) (h0 : 0 ≤ way) (h1 : way ≤ 6) : ∃ (s' : Pu) (z : D), F__law_rule [s.d, .int way] = .ok z [s'.d] ∧ ruleB z = true := by
  have : way = 0 ∨ way = 1 ∨ way = 2 ∨ way = 3 ∨ way = 4 ∨ way = 5 ∨ way = 6 := by omega
  rcases this with h | h | rfl | rfl | rfl | rfl | rfl
  · exact rule01 s way (.inl h)
  · exact rule01 s way (.inr h)
  · exact rule2 s
  · exact rule3 s
  · exact rule4 s
  · exact rule5 s
  · exact rule6 s
theorem rule_draw (s : Pu) (ρ : Env) (way : Int) (h0 : 0 ≤ way) (h1 : way ≤ 6) : ∃ (s' : Pu) (z : D), callG [true, false] false F__law_rule [.own 0, .val (.int way)] (.p s.d :: ρ) = .ok z (.p s'.d :: ρ) ∧ ruleB z = true := by
  obtain ⟨s', z, h, h2⟩ := rule_ok s way h0 h1
  exact ⟨s', z, call_own (i := 0) rfl rfl h rfl, h2⟩
theorem okL_rules {L : List D} (h : ∀ x ∈ L, ruleB x = true) : okL 59 L = true := okL_of L fun x hx => (pur_same 2 (pur_rule (rf_of (h x hx)))).2 59 (by decide)
theorem ne_nil {L : List D} (h : ∀ x ∈ L, ruleB x = true) : neO (.lst L) (.lst []) = some (.bl (!L.isEmpty)) := by
  show (if okD 60 (.lst L) = true ∧ okD 60 (.lst []) = true then some (D.bl (!eqD (.lst L) (.lst []))) else none) = _
  rw [if_pos ⟨by rw [okD]; exact okL_rules h, rfl⟩]
  unfold eqD
  cases L <;> simp [toPy, toPyL, PyData.eqv, PyData.eqvAll]
def bodyR : SM := (sIf (tAndM (tOfE (eOp2 neO (rVar 2) (rOf (eLst lNil)))) (tOfE (eOp2 eqO (rOf (eCall [true, false] false F__law_pick (aCons (rVar 0) (aCons (rOf (eC (.int 3))) aNil)))) (rOf (eC (.int 0)))))) (sSetIx 2 (eCall [true, false] false F__law_rule (aCons (rVar 0) (aCons (rVar 3) aNil))) (eCall [true, false] false F__law_pick (aCons (rVar 0) (aCons (rOf (eCallB lenD (aCons (rVar 2) aNil))) aNil)))) sNil)
theorem bodyR_ok (s : Pu) (many way : Int) (h0 : 0 ≤ way) (h1 : way ≤ 6) (n : Nat) (hn : n ≤ 13) (L : List D) (hl : L.length ≤ n) (hL : ∀ x ∈ L, ruleB x = true) : ∃ (s' : Pu) (L' : List D), bodyR [.p s.d, .v (.int many), .o (.lst L), .v (.int way), .no] = .nx [.p s'.d, .v (.int many), .o (.lst L'), .v (.int way), .no] ∧ L'.length ≤ n ∧ ∀ x ∈ L', ruleB x = true := by
  have ne := ne_nil hL
  cases he : L.isEmpty with
  | true =>
    rw [he] at ne
    exact ⟨s, L, by simp [bodyR, ne], hl, hL⟩
  | false =>
    rw [he] at ne
    have pos : 0 < L.length := by
      cases L with
      | nil => cases he
      | cons _ _ => simp
    obtain ⟨s1, r, e1, _, _⟩ := pick_call s [.v (.int many), .o (.lst L), .v (.int way), .no] 3 (by decide) (by decide)
    by_cases hr : r = 0
    · subst hr
      obtain ⟨s2, z, e2, hz⟩ := rule_draw s1 [.v (.int many), .o (.lst L), .v (.int way), .no] way h0 h1
      obtain ⟨s3, j, e3, j0, j1⟩ := pick_call s2 [.v (.int many), .o (.lst L), .v (.int way), .no] (L.length : Int) (by omega) (by omega)
      have hx : ixN L.length j = some j.toNat := by
        unfold ixN
        rw [if_pos j0, if_pos (by omega)]
      have ln : lenD [.lst L] = some (.int (L.length : Int)) := rfl
      refine ⟨s3, L.set j.toNat z, ?_, by rw [List.length_set]; exact hl, fun x hx => ?_⟩
      · simp [bodyR, ne, e1, sSetIx, e2, ln, e3, hx, ownGet, ownSet]
      · rcases List.mem_or_eq_of_mem_set hx with q | q
        · exact hL x q
        · exact q ▸ hz
    · exact ⟨s1, L, by simp [bodyR, ne, e1, hr], hl, hL⟩
theorem rules_ok (s : Pu) (n : Nat) (hn : n ≤ 13) : ∃ (s' : Pu) (z : D), F__law_rules [s.d, .int (n : Int)] = .ok z [s'.d] ∧ ∃ L, z = .tup L ∧ L.length ≤ n ∧ ∀ x ∈ L, ruleB x = true := by
  have rg := rng_nat (n := n) (by omega)
  obtain ⟨s1, y, out, e1, hlen, hP⟩ := comp_each (S := Pu) (mt := tYesM) (me := eCall [true, false] false F__law_rule (aCons (rVar 0) (aCons (rOf (eCall [true, false] false F__law_pick (aCons (rVar 0) (aCons (rOf (eC (.int 5))) aNil)))) aNil))) (i := 4) (fun s x => [.p s.d, .v (.int (n : Int)), .no, .no, x]) (fun _ _ _ => rfl) (fun z => ruleB z = true)
    ((List.range n).map fun i => D.int ((i : Nat) : Int)) (fun s d _ => by simp) (fun s d _ => by
      obtain ⟨s1, r, f1, r0, r1⟩ := pick_call s [.v (.int (n : Int)), .no, .no, .v d] 5 (by decide) (by decide)
      obtain ⟨s2, z, f2, hz⟩ := rule_draw s1 [.v (.int (n : Int)), .no, .no, .v d] r r0 (by omega)
      exact ⟨s2, z, by simp [f1, f2], hz⟩) [] s .no
  rw [List.length_map, List.length_range] at hlen
  rw [List.nil_append] at e1
  obtain ⟨ρ', e2, s2, L, w, hρ, hl, hL⟩ := for_cnt (g := gNm 3) (body := bodyR) (fun _ ρ => ∃ (s : Pu) (L : List D) (w : Slot), ρ = [.p s.d, .v (.int (n : Int)), .o (.lst L), w, .no] ∧ L.length ≤ n ∧ ∀ x ∈ L, ruleB x = true) [.int 5, .int 6, .int 5, .int 6] 0 (fun j d hd ρ ⟨s, L, w, hρ, hl, hL⟩ _ => by
    subst hρ
    simp only [List.mem_cons, List.not_mem_nil, or_false] at hd
    have : ∃ way : Int, d = .int way ∧ 0 ≤ way ∧ way ≤ 6 := by
      rcases hd with rfl | rfl | rfl | rfl
      · exact ⟨5, rfl, by decide, by decide⟩
      · exact ⟨6, rfl, by decide, by decide⟩
      · exact ⟨5, rfl, by decide, by decide⟩
      · exact ⟨6, rfl, by decide, by decide⟩
    obtain ⟨way, rfl, w0, w1⟩ := this
    obtain ⟨s', L', e, hl', hL'⟩ := bodyR_ok s (n : Int) way w0 w1 n hn L hl hL
    exact ⟨_, _, rfl, e, s', L', _, rfl, hl', hL'⟩) [.p s1.d, .v (.int (n : Int)), .o (.lst out), .no, .no] ⟨s1, out, .no, rfl, by omega, hP⟩
  subst hρ
  have tt : tuple3D [.lst L] = some (.tup L) := rfl
  refine ⟨s2, .tup L, ?_, L, rfl, hl, hL⟩
  unfold bodyR at e2
  simp only [F__law_rules, m__law_rules, runF_eq, slots_p, slots_v, slots_nil]
  simp [rg, e1, e2, tt, backE, wipeE, keepV]
end NV

set_option Elab.async false
set_option linter.all false
set_option maxRecDepth 100000
set_option maxHeartbeats 4000000
namespace NV
open PySem PySem.Spec PyProof.Rows L2 PySem.NumText
/-! texts of figures -/
theorem FIG_all : (FIG.cps.toList.all fun c => decide (48 ≤ c) && decide (c ≤ 57)) = true := by decide +kernel
def figB (x : Str) : Bool := x.cps.toList.all fun c => inS ⟨#[c]⟩ FIG
theorem fig_iff (c : Nat) : inS ⟨#[c]⟩ FIG = true ↔ 48 ≤ c ∧ c ≤ 57 := by
  rw [inS_sign, decide_eq_true_eq]
  constructor
  · intro h
    have := List.all_eq_true.mp FIG_all c h
    simpa using this
  · intro h
    have := FIG_mem (c - 48) (by omega)
    rwa [show 48 + (c - 48) = c by omega] at this
theorem figB_iff (x : Str) : figB x = true ↔ ∀ c ∈ cpL x, 48 ≤ c ∧ c ≤ 57 := by
  unfold figB
  rw [List.all_eq_true]
  exact ⟨fun h c hc => (fig_iff c).mp (h c hc), fun h c hc => (fig_iff c).mpr (h c hc)⟩
/-- the comprehension over a text's signs: is each in Z? -/
theorem signs_comp (Z : Str) (i : Nat) (x : Str) (e : Slot → Env) (hset : ∀ x y, (e x).set i y = e y) (hget : ∀ d, (e (.v d))[i]? = some (.v d)) (s : Slot) :
    ∃ y, compL (gNm i) tYesM (eOp2 inD (rVar i) (rOf (eC (.str Z)))) [i] (x.cps.toList.map fun c => D.str ⟨#[c]⟩) [] (e s) = .ok (x.cps.toList.map fun c => D.bl (inS ⟨#[c]⟩ Z)) (e y) := by
  obtain ⟨y, h⟩ := comp_D (mt := tYesM) (me := eOp2 inD (rVar i) (rOf (eC (.str Z)))) (i := i) e hset (x.cps.toList.map fun c => D.str ⟨#[c]⟩) (fun d => match d with
      | .str z => .bl (inS z Z)
      | _ => .non) (fun d _ => by simp) (fun d hd => by
        obtain ⟨c, _, rfl⟩ := List.mem_map.mp hd
        simp [in_sign, hget]) s
  rw [List.map_map] at h
  exact ⟨y, h⟩
theorem dv_snoc (cs : List Nat) (c : Nat) : digitsVal (cs ++ [c]) = digitsVal cs * 10 + (c - 48) := by
  unfold digitsVal
  rw [List.foldl_append]
  rfl
theorem dv_lt : ∀ (n : Nat) (cs : List Nat), cs.length = n → (∀ c ∈ cs, 48 ≤ c ∧ c ≤ 57) → digitsVal cs < 10 ^ n
  | 0, cs, h, _ => by
    rw [List.length_eq_zero_iff.mp h]
    decide
  | n + 1, cs, h, hd => by
    rcases List.eq_nil_or_concat cs with rfl | ⟨l, c, e⟩
    · cases h
    · rw [List.concat_eq_append] at e
      rw [e, List.length_append, List.length_singleton] at h
      have ih := dv_lt n l (by omega) fun x hx => hd x (by rw [e]; exact List.mem_append_left _ hx)
      have hc := hd c (by rw [e]; simp)
      rw [e, dv_snoc, Nat.pow_succ]
      omega
theorem fold_ge : ∀ (cs : List Nat) (a : Nat), a ≤ cs.foldl (fun acc c => acc * 10 + (c - 48)) a
  | [], a => Nat.le_refl a
  | c :: cs, a => Nat.le_trans (by show a ≤ a * 10 + (c - 48); omega) (fold_ge cs (a * 10 + (c - 48)))
theorem digits_back : ∀ (n : Nat) (cs : List Nat), cs.length = n → (∀ c ∈ cs, 48 ≤ c ∧ c ≤ 57) → cs ≠ [] → (cs = [48] ∨ ∀ r, cs ≠ 48 :: r) → (Nat.toDigits 10 (digitsVal cs)).map Char.toNat = cs
  | 0, cs, h, _, hn, _ => absurd (List.length_eq_zero_iff.mp h) hn
  | n + 1, cs, h, hd, hn, hz => by
    rcases List.eq_nil_or_concat cs with e | ⟨l, c, e⟩
    · exact absurd e hn
    · rw [List.concat_eq_append] at e
      subst e
      rw [List.length_append, List.length_singleton] at h
      have hc := hd c (by simp)
      have one : ∀ k : Nat, k < 10 → (Nat.digitChar k).toNat = 48 + k := by decide
      have o := one (c - 48) (by omega)
      by_cases hl : l = []
      · subst hl
        rw [dv_snoc]
        show (Nat.toDigits 10 (0 * 10 + (c - 48))).map Char.toNat = [c]
        rw [Nat.toDigits_of_lt_base (by omega)]
        show [(Nat.digitChar (0 * 10 + (c - 48))).toNat] = [c]
        rw [show 0 * 10 + (c - 48) = c - 48 by omega, o]
        congr 1
        omega
      · have hz' : ∀ r, l ≠ 48 :: r := fun r q => by
          rcases hz with hz | hz
          · rw [q] at hz
            simp at hz
          · exact hz (r ++ [c]) (by rw [q]; rfl)
        have ih := digits_back n l (by omega) (fun x hx => hd x (List.mem_append_left _ hx)) hl (.inr hz')
        have pos : 0 < digitsVal l := by
          cases l with
          | nil => exact absurd rfl hl
          | cons d r =>
            have hd0 := hd d (by simp)
            have : d ≠ 48 := fun q => hz' r (by rw [q])
            have := fold_ge r (0 * 10 + (d - 48))
            show 0 < List.foldl _ (0 * 10 + (d - 48)) r
            omega
        have t : Nat.toDigits 10 (digitsVal l) ++ Nat.toDigits 10 (c - 48) = Nat.toDigits 10 (10 * digitsVal l + (c - 48)) := Nat.toDigits_append_toDigits (by decide) pos (by omega)
        rw [dv_snoc, show digitsVal l * 10 + (c - 48) = 10 * digitsVal l + (c - 48) by omega, ← t, List.map_append, ih, Nat.toDigits_of_lt_base (by omega)]
        show l ++ [(Nat.digitChar (c - 48)).toNat] = l ++ [c]
        rw [o, show 48 + (c - 48) = c by omega]
def numT (x : Str) : Prop := ∃ n : Nat, n ≤ 99999 ∧ x = numS (n : Int)
theorem num_form {x : Str} (hf : figB x = true) (h1 : 1 ≤ x.length) (h5 : x.length ≤ 5) (hz : cpL x = [48] ∨ ∀ r, cpL x ≠ 48 :: r) : numT x := by
  have hd := (figB_iff x).mp hf
  have hl : (cpL x).length = x.length := rfl
  have hn : cpL x ≠ [] := fun e => by rw [e] at hl; simp at hl; omega
  have lt := dv_lt x.length (cpL x) hl hd
  have : 10 ^ x.length ≤ 10 ^ 5 := Nat.pow_le_pow_right (by decide) h5
  refine ⟨digitsVal (cpL x), by omega, cp_inj ?_⟩
  rw [num_cp, digits_back x.length (cpL x) hl hd hn hz]
theorem int_figs {x : Str} (hf : figB x = true) (h1 : 1 ≤ x.length) (h5 : x.length ≤ 5) : ∃ n : Nat, n ≤ 99999 ∧ intZ [.str x] = some (.int (n : Int)) := by
  have hd := (figB_iff x).mp hf
  have hl : (cpL x).length = x.length := rfl
  have hn : cpL x ≠ [] := fun e => by rw [e] at hl; simp at hl; omega
  have lt := dv_lt x.length (cpL x) hl hd
  have : 10 ^ x.length ≤ 10 ^ 5 := Nat.pow_le_pow_right (by decide) h5
  refine ⟨digitsVal (cpL x), by omega, ?_⟩
  show (if x.length ≤ 640 then (PySem.intText? x).map D.int else none) = _
  rw [if_pos (by omega), intText_digits hd hn (by omega)]
  rfl
theorem number_none {x : Str} (h : ¬ numT x) : F_number_in [.str x] = .ok .non [] := by
  have ln : lenD [.str x] = some (.int (x.length : Int)) := rfl
  have it : itemsD (.str x) = some (x.cps.toList.map fun c => D.str ⟨#[c]⟩) := rfl
  by_cases h1 : (1 : Int) ≤ (x.length : Int)
  · by_cases h2 : (x.length : Int) ≤ 5
    · obtain ⟨y, cp⟩ := signs_comp FIG 1 x (fun s => [.v (.str x), s]) (fun _ _ => rfl) (fun _ => rfl) .no
      have al : allD2 [.lst (x.cps.toList.map fun c => D.bl (inS ⟨#[c]⟩ FIG))] = some (.bl (figB x)) := all_map x.cps.toList fun c => inS ⟨#[c]⟩ FIG
      cases hf : figB x with
      | false =>
        rw [hf] at al
        generalize x.cps.toList.map (fun c => D.bl (inS ⟨#[c]⟩ FIG)) = AL at *
        generalize x.cps.toList.map (fun c => D.str ⟨#[c]⟩) = SL at *
        generalize (x.length : Int) = ll at *
        generalize D.str x = X at *
        simp [F_number_in, m_number_in, ln, h1, h2, G_MOST_FIGURES, fig_G, it, cp, al, backE, wipeE, keepV]
      | true =>
        rw [hf] at al
        have hz : ¬ (cpL x = [48] ∨ ∀ r, cpL x ≠ 48 :: r) := fun q => h (num_form hf (by omega) (by omega) q)
        rw [not_or] at hz
        obtain ⟨r, hr⟩ := Classical.not_forall.mp hz.2
        have hr : cpL x = 48 :: r := Classical.not_not.mp hr
        have i0 : ixD (.str x) (.int 0) = some (.str "0") := ixS_zero hr
        have z1 : eqO (.str "0") (.str "0") = some (.bl true) := by kernel_rfl
        have z2 : neO (.str x) (.str "0") = some (.bl true) := by
          rw [neO_ss, decide_eq_false fun q => hz.1 (by rw [q]; rfl)]
          rfl
        generalize x.cps.toList.map (fun c => D.bl (inS ⟨#[c]⟩ FIG)) = AL at *
        generalize x.cps.toList.map (fun c => D.str ⟨#[c]⟩) = SL at *
        generalize (x.length : Int) = ll at *
        generalize D.str x = X at *
        simp [F_number_in, m_number_in, ln, h1, h2, G_MOST_FIGURES, fig_G, it, cp, al, i0, z1, z2, backE, wipeE, keepV]
    · generalize (x.length : Int) = ll at *
      generalize D.str x = X at *
      simp [F_number_in, m_number_in, ln, h1, h2, G_MOST_FIGURES]
  · generalize (x.length : Int) = ll at *
    generalize D.str x = X at *
    simp [F_number_in, m_number_in, ln, h1, G_MOST_FIGURES]
theorem figures_none {x : Str} (h : ¬ numT x) (lo hi : Int) : F__law_figures [.str x, .int lo, .int hi] = .ok .non [] := by
  have ln : lenD [.str x] = some (.int (x.length : Int)) := rfl
  have it : itemsD (.str x) = some (x.cps.toList.map fun c => D.str ⟨#[c]⟩) := rfl
  have fe : ("0123456789" : Str) = FIG := rfl
  by_cases h1 : (1 : Int) ≤ (x.length : Int)
  · by_cases h2 : (x.length : Int) ≤ 5
    · obtain ⟨y, cp⟩ := signs_comp FIG 3 x (fun s => [.v (.str x), .v (.int lo), .v (.int hi), s]) (fun _ _ => rfl) (fun _ => rfl) .no
      have al : allD2 [.lst (x.cps.toList.map fun c => D.bl (inS ⟨#[c]⟩ FIG))] = some (.bl (figB x)) := all_map x.cps.toList fun c => inS ⟨#[c]⟩ FIG
      cases hf : figB x with
      | false =>
        rw [hf] at al
        generalize x.cps.toList.map (fun c => D.bl (inS ⟨#[c]⟩ FIG)) = AL at *
        generalize x.cps.toList.map (fun c => D.str ⟨#[c]⟩) = SL at *
        generalize (x.length : Int) = ll at *
        generalize D.str x = X at *
        simp [F__law_figures, m__law_figures, ln, h1, h2, fe, it, cp, al, backE, wipeE, keepV]
      | true =>
        rw [hf] at al
        obtain ⟨n, hn, iz⟩ := int_figs hf (by omega) (by omega)
        have st : strZ [.int (n : Int)] = some (.str (numS (n : Int))) := strI_ok (by omega) (by omega)
        have ne : neO (.str (numS (n : Int))) (.str x) = some (.bl true) := by
          rw [neO_ss, decide_eq_false fun q => h ⟨n, hn, q.symm⟩]
          rfl
        generalize x.cps.toList.map (fun c => D.bl (inS ⟨#[c]⟩ FIG)) = AL at *
        generalize x.cps.toList.map (fun c => D.str ⟨#[c]⟩) = SL at *
        generalize (x.length : Int) = ll at *
        generalize numS (n : Int) = NS at *
        generalize D.str x = X at *
        simp [F__law_figures, m__law_figures, ln, h1, h2, fe, it, cp, al, iz, st, ne, backE, wipeE, keepV]
    · generalize (x.length : Int) = ll at *
      generalize D.str x = X at *
      simp [F__law_figures, m__law_figures, ln, h1, h2]
  · generalize (x.length : Int) = ll at *
    generalize D.str x = X at *
    simp [F__law_figures, m__law_figures, ln, h1]
theorem figures_num {n : Nat} (h : n ≤ 99999) (lo hi : Int) : F__law_figures [.str (numS (n : Int)), .int lo, .int hi] = .ok (if lo ≤ (n : Int) ∧ (n : Int) ≤ hi then .int (n : Int) else .non) [] := by
  obtain ⟨l1, l5⟩ := num_len n h
  have hx := num_digit n
  have iz : intZ [.str (numS (n : Int))] = some (.int (n : Int)) := by
    show (if _ then (PySem.intText? _).map D.int else none) = _
    rw [if_pos (by omega), num_back n h]
    rfl
  have st : strZ [.int (n : Int)] = some (.str (numS (n : Int))) := strI_ok (by omega) (by omega)
  have ne : neO (.str (numS (n : Int))) (.str (numS (n : Int))) = some (.bl false) := neS_self _
  generalize numS (n : Int) = x at *
  have ln : lenD [.str x] = some (.int (x.length : Int)) := rfl
  have it : itemsD (.str x) = some (x.cps.toList.map fun c => D.str ⟨#[c]⟩) := rfl
  have fe : ("0123456789" : Str) = FIG := rfl
  have h1 : (1 : Int) ≤ (x.length : Int) := by omega
  have h2 : (x.length : Int) ≤ 5 := by omega
  obtain ⟨y, cp⟩ := signs_comp FIG 3 x (fun s => [.v (.str x), .v (.int lo), .v (.int hi), s]) (fun _ _ => rfl) (fun _ => rfl) .no
  have al : allD2 [.lst (x.cps.toList.map fun c => D.bl (inS ⟨#[c]⟩ FIG))] = some (.bl (figB x)) := all_map x.cps.toList fun c => inS ⟨#[c]⟩ FIG
  rw [(figB_iff x).mpr hx] at al
  have z0 : intZ [.bl false] = some (.int 0) := rfl
  have z1 : intZ [.bl true] = some (.int 1) := rfl
  have x0 : ∀ d, ixD (.lst [.non, d]) (.int 0) = some .non := fun _ => rfl
  have x1 : ∀ d, ixD (.lst [.non, d]) (.int 1) = some d := fun _ => rfl
  generalize x.cps.toList.map (fun c => D.bl (inS ⟨#[c]⟩ FIG)) = AL at *
  generalize x.cps.toList.map (fun c => D.str ⟨#[c]⟩) = SL at *
  generalize (x.length : Int) = ll at *
  generalize (n : Int) = nn at *
  generalize D.str x = X at *
  by_cases a : lo ≤ nn
  · by_cases b : nn ≤ hi
    · simp [F__law_figures, m__law_figures, ln, h1, h2, fe, it, cp, al, iz, st, ne, a, b, z0, z1, x0, x1, backE, wipeE, keepV]
    · simp [F__law_figures, m__law_figures, ln, h1, h2, fe, it, cp, al, iz, st, ne, a, b, z0, z1, x0, x1, backE, wipeE, keepV]
  · simp [F__law_figures, m__law_figures, ln, h1, h2, fe, it, cp, al, iz, st, ne, a, z0, z1, x0, x1, backE, wipeE, keepV]
end NV

set_option Elab.async false
set_option linter.all false
set_option maxRecDepth 100000
set_option maxHeartbeats 4000000
namespace NV
open PySem PySem.Spec PyProof.Rows L2
/-! kinds, words, days in texts -/
theorem kind_in_ok (x : Str) : F__law_kind_in [.str x] = .ok (if kindB (.str x) then .str x else .non) [] := by
  have ln : lenD [.str x] = some (.int (x.length : Int)) := rfl
  have it : itemsD (.str x) = some (x.cps.toList.map fun c => D.str ⟨#[c]⟩) := rfl
  have fe : ("abcdefghijklmnopqrstuvwxyz" : Str) = LET := rfl
  have n1 := neO_ss x "any"
  have n2 := neO_ss x "fresh"
  have z0 : intD [.bl false] = some (.int 0) := rfl
  have z1 : intD [.bl true] = some (.int 1) := rfl
  have x0 : ∀ d, ixD (.lst [.non, d]) (.int 0) = some .non := fun _ => rfl
  have x1 : ∀ d, ixD (.lst [.non, d]) (.int 1) = some d := fun _ => rfl
  obtain ⟨y, cp⟩ := signs_comp LET 2 x (fun s => [.v (.str x), .no, s]) (fun _ _ => rfl) (fun _ => rfl) .no
  have al : allD2 [.lst (x.cps.toList.map fun c => D.bl (inS ⟨#[c]⟩ LET))] = some (.bl (signOk x)) := all_map x.cps.toList fun c => inS ⟨#[c]⟩ LET
  have kB : kindB (.str x) = ((decide ((1 : Int) ≤ (x.length : Int)) && decide ((x.length : Int) ≤ 8) && signOk x) && (!decide (x = "any") && !decide (x = "fresh"))) := rfl
  rw [kB]
  generalize x.cps.toList.map (fun c => D.bl (inS ⟨#[c]⟩ LET)) = AL at *
  generalize x.cps.toList.map (fun c => D.str ⟨#[c]⟩) = SL at *
  generalize (x.length : Int) = ll at *
  generalize decide (x = "any") = b1 at *
  generalize decide (x = "fresh") = b2 at *
  generalize signOk x = b3 at *
  clear kB
  generalize D.str x = X at *
  by_cases h1 : 0 < ll
  · have h1' : (1 : Int) ≤ ll := by omega
    by_cases h2 : ll < 9
    · have h2' : ll ≤ 8 := by omega
      cases b1 <;> cases b2 <;> cases b3 <;> simp [F__law_kind_in, m__law_kind_in, ln, h1, h2, h1', h2', fe, it, cp, al, n1, n2, z0, z1, x0, x1, backE, wipeE, keepV]
    · have h2' : ¬ ll ≤ 8 := by omega
      simp [F__law_kind_in, m__law_kind_in, ln, h1, h2, h1', h2', z0, x0]
  · have h1' : ¬ (1 : Int) ≤ ll := by omega
    simp [F__law_kind_in, m__law_kind_in, ln, h1, h1', z0, x0]
theorem nin_strs (k : Str) (l : List Str) : notInD (.str k) (.tup (l.map D.str)) = some (.bl (!decide (k ∈ l))) := by
  show ((if okD 60 (.str k) = true ∧ okL 60 (l.map D.str) = true then some (anyD (.str k) (l.map D.str)) else none).map fun b => D.bl (!b)) = _
  rw [if_pos ⟨rfl, okL_strs 60 l⟩, any_strs]
  rfl
def bWi : SM := (sIf (tAndM (tOfE (eOp2 notInD (rVar 1) (rOf (eTup (lCons (eC (.str "any")) (lCons (eC (.str "fresh")) lNil)))))) (tOfE (eOp2 isD (rOf (eCall [false] false F__law_kind_in (aCons (rVar 1) aNil))) (rOf (eC .non))))) (sRet (eC .non)) sNil)
theorem bWi_ok (L : D) (x : Str) : bWi [.v L, .v (.str x)] = if nameB (.str x) then .nx [.v L, .v (.str x)] else .rt .non [.v L, .v (.str x)] := by
  have k := fun ρ => call_val (fl := [false]) (F := F__law_kind_in) (rs := [.val (.str x)]) (ρ := ρ) rfl rfl (kind_in_ok x) (.inl rfl)
  have w := word_eq (.str x)
  have ni : notInD (.str x) (.tup [.str "any", .str "fresh"]) = some (.bl (!decide (x ∈ (["any", "fresh"] : List Str)))) := nin_strs x ["any", "fresh"]
  have w : (kindB (.str x) || decide (x ∈ (["any", "fresh"] : List Str))) = nameB (.str x) := w
  rw [← w]
  have i0 : isD .non .non = some (.bl true) := rfl
  have i1 : isD (.str x) .non = some (.bl false) := rfl
  generalize decide (x ∈ (["any", "fresh"] : List Str)) = b at *
  cases hk : kindB (.str x) <;> cases b <;> rw [hk] at k <;> simp [bWi, ni, k, i0, i1] <;> rfl
theorem wi_loop (L : D) : ∀ (ws : List Str) (s : Slot), ∃ t, forL (gNm 1) bWi (ws.map D.str) [.v L, s] = if (ws.map D.str).all nameB then .nx [.v L, t] else .rt .non [.v L, t]
  | [], s => ⟨s, rfl⟩
  | x :: ws, s => by
    have b := bWi_ok L x
    obtain ⟨t, ih⟩ := wi_loop L ws (.v (.str x))
    rw [List.map_cons, List.all_cons]
    unfold forL
    have gg : gNm 1 (.str x) [.v L, s] = some [.v L, .v (.str x)] := rfl
    simp only [gg, b]
    cases hn : nameB (.str x) with
    | true =>
      refine ⟨t, ?_⟩
      simp only [if_true, Bool.true_and]
      exact ih
    | false => exact ⟨.v (.str x), rfl⟩
theorem words_in_ok (ws : List Str) : F__law_words_in [.lst (ws.map D.str)] = .ok (if wordsB (.tup (ws.map D.str)) then .tup (ws.map D.str) else .non) [] := by
  obtain ⟨t, lp⟩ := wi_loop (.lst (ws.map D.str)) ws .no
  have it : itemsD (.lst (ws.map D.str)) = some (ws.map D.str) := rfl
  have tu : tuple3D [.lst (ws.map D.str)] = some (.tup (ws.map D.str)) := rfl
  have ln : lenD [.lst (ws.map D.str)] = some (.int ((ws.map D.str).length : Int)) := rfl
  have z0 : intD [.bl false] = some (.int 0) := rfl
  have z1 : intD [.bl true] = some (.int 1) := rfl
  have x0 : ∀ d, ixD (.lst [.non, d]) (.int 0) = some .non := fun _ => rfl
  have x1 : ∀ d, ixD (.lst [.non, d]) (.int 1) = some d := fun _ => rfl
  have wB : wordsB (.tup (ws.map D.str)) = (decide ((1 : Int) ≤ ((ws.map D.str).length : Int)) && (decide (((ws.map D.str).length : Int) ≤ 8) && (ws.map D.str).all nameB)) := rfl
  rw [wB]
  clear wB
  unfold bWi at lp
  generalize ((ws.map D.str).length : Int) = ll at *
  generalize (ws.map D.str).all nameB = b at *
  generalize D.tup (ws.map D.str) = TT at *
  generalize hLL : D.lst (ws.map D.str) = LL at *
  generalize ws.map D.str = WW at *
  cases b with
  | false =>
    simp only [Bool.false_eq_true, if_false] at lp
    simp [F__law_words_in, m__law_words_in, it, lp]
  | true =>
    simp only [if_true] at lp
    by_cases h1 : (1 : Int) ≤ ll
    · by_cases h2 : ll ≤ 8
      · simp [F__law_words_in, m__law_words_in, it, lp, tu, ln, h1, h2, z0, z1, x0, x1]
      · simp [F__law_words_in, m__law_words_in, it, lp, tu, ln, h1, h2, z0, z1, x0, x1]
    · simp [F__law_words_in, m__law_words_in, it, lp, tu, ln, h1, z0, z1, x0, x1]
end NV

set_option Elab.async false
set_option linter.all false
set_option maxRecDepth 100000
set_option maxHeartbeats 4000000
namespace NV
open PySem PySem.Spec PyProof.Rows L2 PySem.NumText
/-! days in texts -/
def dgI (c : Nat) : Int := (c : Int) - 48
def dgL (x : Str) : List D := ((cpL x).map dgI).map D.int
def dayD (x : Str) : D := if figB x then .tup (dgL x) else .non
theorem fig_one : ∀ d : Nat, d < 10 → PySem.intText? ⟨#[48 + d]⟩ = some (d : Int) := by decide +kernel
theorem num_one : ∀ d : Nat, d < 10 → cpL (numS (d : Int)) = [48 + d] := by decide +kernel
theorem intZ_one {c : Nat} (h : 48 ≤ c ∧ c ≤ 57) : intZ [.str ⟨#[c]⟩] = some (.int (dgI c)) := by
  have := fig_one (c - 48) (by omega)
  rw [show 48 + (c - 48) = c by omega] at this
  show (if (⟨#[c]⟩ : Str).length ≤ 640 then (PySem.intText? ⟨#[c]⟩).map D.int else none) = _
  rw [if_pos (by show 1 ≤ 640; decide), this]
  show some (D.int (((c - 48 : Nat)) : Int)) = _
  unfold dgI
  congr 2
  omega
theorem days_in_ok (x : Str) : F_days_in [.str x] = .ok (dayD x) [] := by
  have it : itemsD (.str x) = some (x.cps.toList.map fun c => D.str ⟨#[c]⟩) := rfl
  obtain ⟨y, cp⟩ := signs_comp FIG 1 x (fun s => [.v (.str x), s]) (fun _ _ => rfl) (fun _ => rfl) .no
  have al : allD2 [.lst (x.cps.toList.map fun c => D.bl (inS ⟨#[c]⟩ FIG))] = some (.bl (figB x)) := all_map x.cps.toList fun c => inS ⟨#[c]⟩ FIG
  unfold dayD
  cases hf : figB x with
  | false =>
    rw [hf] at al
    generalize x.cps.toList.map (fun c => D.bl (inS ⟨#[c]⟩ FIG)) = AL at *
    generalize x.cps.toList.map (fun c => D.str ⟨#[c]⟩) = SL at *
    generalize D.str x = X at *
    simp [F_days_in, m_days_in, fig_G, it, cp, al, backE, wipeE, keepV]
  | true =>
    rw [hf] at al
    have hd := (figB_iff x).mp hf
    obtain ⟨y2, c2⟩ := comp_D (mt := tYesM) (me := (eCallB intZ (aCons (rVar 1) aNil))) (i := 1) (fun s => [.v (.str x), s]) (fun _ _ => rfl) (x.cps.toList.map fun c => D.str ⟨#[c]⟩) (fun d => match d with
        | .str z => .int (dgI (z.cps.toList.headD 0))
        | _ => .non) (fun d _ => by simp) (fun d hm => by
      obtain ⟨c, hc, rfl⟩ := List.mem_map.mp hm
      have iz := intZ_one (hd c hc)
      show _ = Res.ok (D.int (dgI c)) _
      generalize D.str ⟨#[c]⟩ = Y at *
      simp [iz]) y
    rw [List.map_map] at c2
    have c2 : compL (gNm 1) tYesM (eCallB intZ (aCons (rVar 1) aNil)) [1] (x.cps.toList.map fun c => D.str ⟨#[c]⟩) [] [.v (.str x), y] = .ok (dgL x) [.v (.str x), y2] := by
      rw [c2]
      unfold dgL
      rw [List.map_map]
      rfl
    have tu : tuple3D [.lst (dgL x)] = some (.tup (dgL x)) := rfl
    obtain ⟨y3, c3⟩ : ∃ y3, compL (gNm 1) tYesM (eCallB intZ (aCons (rVar 1) aNil)) [1] (x.cps.toList.map fun c => D.str ⟨#[c]⟩) [] [.v (.str x), keepV .no] = .ok (dgL x) [.v (.str x), y3] := by
      obtain ⟨y2, c2⟩ := comp_D (mt := tYesM) (me := (eCallB intZ (aCons (rVar 1) aNil))) (i := 1) (fun s => [.v (.str x), s]) (fun _ _ => rfl) (x.cps.toList.map fun c => D.str ⟨#[c]⟩) (fun d => match d with
          | .str z => .int (dgI (z.cps.toList.headD 0))
          | _ => .non) (fun d _ => by simp) (fun d hm => by
        obtain ⟨c, hc, rfl⟩ := List.mem_map.mp hm
        have iz := intZ_one (hd c hc)
        show _ = Res.ok (D.int (dgI c)) _
        generalize D.str ⟨#[c]⟩ = Y at *
        simp [iz]) (keepV .no)
      refine ⟨y2, ?_⟩
      rw [c2]
      unfold dgL
      rw [List.map_map, List.map_map]
      rfl
    clear c2
    generalize x.cps.toList.map (fun c => D.bl (inS ⟨#[c]⟩ FIG)) = AL at *
    generalize x.cps.toList.map (fun c => D.str ⟨#[c]⟩) = SL at *
    generalize dgL x = DL at *
    generalize D.str x = X at *
    have kn : keepV .no = .no := rfl
    rw [kn] at c3
    simp [F_days_in, m_days_in, fig_G, it, cp, al, c3, tu, backE, wipeE, keepV]
/-! the law's -/
def dI (c : Nat) : D := if 48 ≤ c ∧ c ≤ 54 then .int (dgI c) else .non
theorem figures_one (c : Nat) : F__law_figures [.str ⟨#[c]⟩, .int 0, .int 6] = .ok (dI c) [] := by
  by_cases h : 48 ≤ c ∧ c ≤ 57
  · have e : (⟨#[c]⟩ : Str) = numS (((c - 48 : Nat)) : Int) := cp_inj (by
      rw [num_one (c - 48) (by omega), show 48 + (c - 48) = c by omega]
      rfl)
    rw [e, figures_num (by omega)]
    unfold dI dgI
    by_cases h6 : c ≤ 54
    · rw [if_pos ⟨by omega, by omega⟩, if_pos ⟨h.1, h6⟩]
      congr 2
      omega
    · rw [if_neg fun q => h6 (by have := q.2; omega), if_neg fun q => h6 q.2]
  · have hn : ¬ numT ⟨#[c]⟩ := fun ⟨n, hn, e⟩ => by
      have hd := num_digit n c (by rw [← e]; exact List.mem_singleton.mpr rfl)
      exact h hd
    rw [figures_none hn]
    unfold dI
    rw [if_neg fun q => h ⟨q.1, by omega⟩]
def allB (x : Str) : Bool := (cpL x).all fun c => decide (48 ≤ c) && decide (c ≤ 54)
theorem eq_nn : eqD .non .non = true := by kernel_rfl
theorem eq_in (i : Int) : eqD (.int i) .non = false := rfl
theorem okL_dI : ∀ cs : List Nat, okL 60 (cs.map dI) = true
  | [] => rfl
  | c :: cs => by
    have ih := okL_dI cs
    rw [List.map_cons, okL, ih, Bool.and_true]
    unfold dI
    split <;> rfl
theorem none_in (cs : List Nat) : inD .non (.lst (cs.map dI)) = some (.bl (!(cs.all fun c => decide (48 ≤ c) && decide (c ≤ 54)))) := by
  show ((if okD 60 .non = true ∧ okL 60 (cs.map dI) = true then some (anyD .non (cs.map dI)) else none).map D.bl) = _
  rw [if_pos ⟨rfl, okL_dI cs⟩]
  have : anyD .non (cs.map dI) = !(cs.all fun c => decide (48 ≤ c) && decide (c ≤ 54)) := by
    unfold anyD
    induction cs with
    | nil => rfl
    | cons c cs ih =>
      rw [List.map_cons, List.any_cons, ih, List.all_cons, Bool.not_and]
      congr 1
      unfold dI
      by_cases h : 48 ≤ c ∧ c ≤ 54
      · rw [if_pos h, eq_in, decide_eq_true h.1, decide_eq_true h.2]
        rfl
      · rw [if_neg h, eq_nn]
        by_cases h1 : 48 ≤ c
        · rw [decide_eq_true h1, decide_eq_false fun h2 => h ⟨h1, h2⟩]
          rfl
        · rw [decide_eq_false h1]
          rfl
  rw [this]
  rfl
theorem dg_lo (c : Nat) : (0 : Int) ≤ dgI c ↔ 48 ≤ c := by unfold dgI; omega
theorem dg_hi (c : Nat) : dgI c ≤ (6 : Int) ↔ c ≤ 54 := by unfold dgI; omega
theorem bet_dg (c : Nat) : betB 0 6 (.int (dgI c)) = (decide (48 ≤ c) && decide (c ≤ 54)) := by
  show (decide (0 ≤ dgI c) && decide (dgI c ≤ 6)) = _
  rw [decide_eq_decide.mpr (dg_lo c), decide_eq_decide.mpr (dg_hi c)]
theorem law_days_in_ok {x : Str} (hx : x.length < 4000) : F__law_days_in [.str x] = .ok (if daysB (dayD x) then dayD x else .non) [] := by
  have it : itemsD (.str x) = some (x.cps.toList.map fun c => D.str ⟨#[c]⟩) := rfl
  obtain ⟨y, cp⟩ := comp_D (mt := tYesM) (me := eCall [false, false, false] false F__law_figures (aCons (rVar 2) (aCons (rOf (eC (.int 0))) (aCons (rOf (eC (.int 6))) aNil)))) (i := 2) (fun s => [.v (.str x), .no, s]) (fun _ _ => rfl) (x.cps.toList.map fun c => D.str ⟨#[c]⟩) (fun d => match d with
      | .str z => dI (z.cps.toList.headD 0)
      | _ => .non) (fun d _ => by simp) (fun d hm => by
    obtain ⟨c, hc, rfl⟩ := List.mem_map.mp hm
    have k := fun ρ => call_val (fl := [false, false, false]) (F := F__law_figures) (rs := [.val (.str ⟨#[c]⟩), .val (.int 0), .val (.int 6)]) (ρ := ρ) rfl rfl (figures_one c) (.inl rfl)
    show _ = Res.ok (dI c) _
    generalize dI c = Z at *
    generalize D.str ⟨#[c]⟩ = Y at *
    simp [k]) .no
  rw [List.map_map] at cp
  have cp : compL (gNm 2) tYesM (eCall [false, false, false] false F__law_figures (aCons (rVar 2) (aCons (rOf (eC (.int 0))) (aCons (rOf (eC (.int 6))) aNil)))) [2] (x.cps.toList.map fun c => D.str ⟨#[c]⟩) [] [.v (.str x), .no, .no] = .ok ((cpL x).map dI) [.v (.str x), .no, y] := cp
  have ni := none_in (cpL x)
  cases ha : allB x with
  | false =>
    have ha' : (cpL x).all (fun c => decide (48 ≤ c) && decide (c ≤ 54)) = false := ha
    rw [ha'] at ni
    have db : daysB (dayD x) = false := by
      unfold dayD
      cases hf : figB x with
      | false => rfl
      | true =>
        have hd := (figB_iff x).mp hf
        have : (dgL x).all (betB 0 6) = false := by
          cases q : (dgL x).all (betB 0 6) with
          | false => rfl
          | true =>
            rw [List.all_eq_true] at q
            have : (cpL x).all (fun c => decide (48 ≤ c) && decide (c ≤ 54)) = true := by
              rw [List.all_eq_true]
              intro c hc
              have := q (.int (dgI c)) (List.mem_map.mpr ⟨_, List.mem_map.mpr ⟨c, hc, rfl⟩, rfl⟩)
              rwa [bet_dg] at this
            rw [ha'] at this
            cases this
        simp only [if_true, daysB, this, Bool.false_and, Bool.and_false]
    rw [db]
    generalize (cpL x).map dI = DL at *
    generalize x.cps.toList.map (fun c => D.str ⟨#[c]⟩) = SL at *
    generalize D.str x = X at *
    simp [F__law_days_in, m__law_days_in, it, cp, ni, backE, wipeE, keepV]
  | true =>
    have ha' : (cpL x).all (fun c => decide (48 ≤ c) && decide (c ≤ 54)) = true := ha
    rw [ha'] at ni
    have hc := List.all_eq_true.mp ha'
    have dl : (cpL x).map dI = dgL x := by
      unfold dgL
      rw [List.map_map]
      refine List.map_congr_left fun c hm => ?_
      have := hc c hm
      simp only [Bool.and_eq_true, decide_eq_true_eq] at this
      unfold dI
      rw [if_pos this]
      rfl
    have hf : figB x = true := (figB_iff x).mpr fun c hm => by
      have := hc c hm
      simp only [Bool.and_eq_true, decide_eq_true_eq] at this
      omega
    rw [dl] at ni cp
    have bt : (dgL x).all (betB 0 6) = true := by
      rw [List.all_eq_true]
      intro d hd
      obtain ⟨i, hi, rfl⟩ := List.mem_map.mp hd
      obtain ⟨c, hm, rfl⟩ := List.mem_map.mp hi
      rw [bet_dg]
      exact hc c hm
    have ti : (dgL x).map toI = (cpL x).map dgI := by
      unfold dgL
      rw [List.map_map]
      have : (toI ∘ D.int) = id := rfl
      rw [this, List.map_id]
    have db : daysB (dayD x) = (!(dgL x).isEmpty && decide (((cpL x).map dgI).Pairwise (· < ·))) := by
      unfold dayD
      rw [hf]
      simp only [if_true, daysB, bt, ti, Bool.true_and]
    have de : dayD x = .tup (dgL x) := by
      unfold dayD
      rw [hf]
      rfl
    rw [db, de]
    have ll : ((cpL x).map dgI).length < 4000 := by rw [List.length_map]; exact hx
    have al2 : ((cpL x).map dgI).all (fun k => decide (0 ≤ k) && decide (k < 60)) = true := by
      rw [List.all_eq_true]
      intro i hi
      obtain ⟨c, hm, rfl⟩ := List.mem_map.mp hi
      have := hc c hm
      rw [Bool.and_eq_true, decide_eq_true_iff, decide_eq_true_iff] at this
      have h1 := (dg_lo c).mpr this.1
      have h2 := (dg_hi c).mpr this.2
      rw [decide_eq_true h1, decide_eq_true (by omega : dgI c < 60)]
      rfl
    have e0 : eqO (.lst (dgL x)) (.lst []) = some (.bl (decide ((cpL x).map dgI = []))) := eqO_iL ((cpL x).map dgI) []
    have e1 : neO (.lst (dgL x)) (.lst ((sortU ((cpL x).map dgI)).map D.int)) = some (.bl (!decide ((cpL x).map dgI = sortU ((cpL x).map dgI)))) := neO_iL _ _
    have hp : decide ((cpL x).map dgI = sortU ((cpL x).map dgI)) = decide (((cpL x).map dgI).Pairwise (· < ·)) := by
      rw [Bool.eq_iff_iff, decide_eq_true_iff, decide_eq_true_iff]
      exact sortU_fix _
    have em : decide ((cpL x).map dgI = []) = (dgL x).isEmpty := by
      unfold dgL
      cases (cpL x).map dgI <;> rfl
    rw [hp] at e1
    rw [em] at e0
    have ii : intsOf (dgL x) = some ((cpL x).map dgI) := intsOf_map _
    have tu : tuple3D [.lst (dgL x)] = some (.tup (dgL x)) := rfl
    have so : ∀ ρ, eSortI (eVar 1) (.v (.str x) :: .v (.lst (dgL x)) :: ρ) = .ok (.lst ((sortU ((cpL x).map dgI)).map D.int)) (.v (.str x) :: .v (.lst (dgL x)) :: ρ) := fun ρ => by
      unfold eSortI
      simp only [eVar_eq, List.getElem?_cons_succ, List.getElem?_cons_zero, Res.bind, ii, ofO]
      rw [if_pos ⟨ll, al2⟩]
    clear ii ll al2 ti bt db de dl hc ha' ha hp em hf
    generalize (sortU ((cpL x).map dgI)).map D.int = SU at *
    generalize decide (((cpL x).map dgI).Pairwise (· < ·)) = pw at *
    generalize (dgL x).isEmpty = ee at *
    generalize dgL x = DL at *
    generalize x.cps.toList.map (fun c => D.str ⟨#[c]⟩) = SL at *
    generalize D.str x = X at *
    cases ee <;> cases pw <;> simp [F__law_days_in, m__law_days_in, it, cp, ni, e0, e1, so, tu, backE, wipeE, keepV]
end NV

set_option Elab.async false
set_option linter.all false
set_option maxRecDepth 100000
set_option maxHeartbeats 8000000
namespace NV
open PySem PySem.Spec PyProof.Rows L2 PySem.NumText
/-! a row -/
def nuD (x : Str) : D := match F_number_in [.str x] with
  | .ok d _ => d
  | _ => .non
theorem nu_cases (x : Str) : (∃ n : Nat, n ≤ 99999 ∧ x = numS (n : Int) ∧ nuD x = .int (n : Int)) ∨ (¬ numT x ∧ nuD x = .non) := by
  by_cases h : numT x
  · obtain ⟨n, hn, e⟩ := h
    refine .inl ⟨n, hn, e, ?_⟩
    unfold nuD
    rw [e, number_in_ok hn]
  · refine .inr ⟨h, ?_⟩
    unfold nuD
    rw [number_none h]
theorem nuin_ok (x : Str) : F_number_in [.str x] = .ok (nuD x) [] := by
  rcases nu_cases x with ⟨n, hn, e, q⟩ | ⟨h, q⟩
  · rw [q, e, number_in_ok hn]
  · rw [q, number_none h]
theorem figures_ok (x : Str) (lo hi : Int) : F__law_figures [.str x, .int lo, .int hi] = .ok (if betB lo hi (nuD x) then nuD x else .non) [] := by
  rcases nu_cases x with ⟨n, hn, e, q⟩ | ⟨h, q⟩
  · rw [q, e, figures_num hn]
    by_cases a : lo ≤ (n : Int) ∧ (n : Int) ≤ hi
    · have : betB lo hi (.int (n : Int)) = true := by
        show (decide (lo ≤ (n : Int)) && decide ((n : Int) ≤ hi)) = true
        rw [decide_eq_true a.1, decide_eq_true a.2]
        rfl
      rw [if_pos a, if_pos this]
    · have : betB lo hi (.int (n : Int)) = false := by
        show (decide (lo ≤ (n : Int)) && decide ((n : Int) ≤ hi)) = false
        rw [Bool.and_eq_false_iff]
        by_cases b : lo ≤ (n : Int)
        · exact .inr (decide_eq_false fun c => a ⟨b, c⟩)
        · exact .inl (decide_eq_false b)
      rw [if_neg a, this]
      rfl
  · rw [q, figures_none h]
    rfl
theorem nu_int {lo hi : Int} {x : Str} (h : betB lo hi (nuD x) = true) : ∃ n : Nat, n ≤ 99999 ∧ x = numS (n : Int) ∧ nuD x = .int (n : Int) := by
  rcases nu_cases x with q | ⟨_, q⟩
  · exact q
  · rw [q] at h
    cases h
theorem nu_good (x : Str) : good (nuD x) = true := by
  rcases nu_cases x with ⟨n, hn, e, q⟩ | ⟨h, q⟩ <;> rw [q] <;> simp [good]
theorem days_good {x : Str} (hx : x.length < 4000) : good (dayD x) = true := by
  unfold dayD
  split
  · rw [good_tup]
    have : (dgL x).all good = true := by
      rw [List.all_eq_true]
      intro d hd
      obtain ⟨i, _, rfl⟩ := List.mem_map.mp hd
      simp [good]
    rw [this]
    have l : (dgL x).length = x.length := by
      unfold dgL
      rw [List.length_map, List.length_map]
      rfl
    rw [l, decide_eq_true (by omega : x.length < 16000)]
    rfl
  · simp [good]
theorem days_wds {x : Str} (h : daysB (dayD x) = true) : ∃ ds, dayD x = .tup ds ∧ Txt.join ⟨#[]⟩ (ds.map stS) = x := by
  unfold dayD at h ⊢
  cases hf : figB x with
  | false => rw [hf] at h; cases h
  | true =>
    refine ⟨dgL x, rfl, cp_inj ?_⟩
    have hd := (figB_iff x).mp hf
    have e : (dgL x).map stS = (cpL x).map fun c => (⟨#[c]⟩ : Str) := by
      unfold dgL
      rw [List.map_map, List.map_map]
      refine List.map_congr_left fun c hc => cp_inj ?_
      have := hd c hc
      show cpL (numS (dgI c)) = [c]
      have q := num_one (c - 48) (by omega)
      rw [show ((c - 48 : Nat) : Int) = dgI c by unfold dgI; omega] at q
      rw [q, show 48 + (c - 48) = c by omega]
    rw [e]
    show (Txt.join ⟨#[]⟩ ((cpL x).map fun c => (⟨#[c]⟩ : Str))).cps.toList = cpL x
    rw [join_empty, List.map_map]
    have : ∀ l : List Nat, (l.map ((fun p : Str => p.cps.toList) ∘ fun c => (⟨#[c]⟩ : Str))).flatten = l := fun l => by
      induction l with
      | nil => rfl
      | cons c l ih =>
        rw [List.map_cons, List.flatten_cons, ih]
        rfl
    exact this _
/-! none within -/
theorem good_str (a : Str) : good (.str a) = true := by simp [good]
theorem ok_nu (x : Str) (k : Nat) : okD k (nuD x) = true := by
  rcases nu_cases x with ⟨n, hn, e, q⟩ | ⟨h, q⟩ <;> rw [q] <;> simp [okD]
theorem in_non {tl : List D} (h : okL 60 tl = true) : inD .non (.tup tl) = some (.bl (anyD .non tl)) := by
  show ((if okD 60 .non = true ∧ okL 60 tl = true then some (anyD .non tl) else none).map D.bl) = _
  rw [if_pos ⟨rfl, h⟩]
  rfl
/-! heads -/
structure Hw (w : Str) (s b n m h : Bool) : Prop where
  sD : inD (.str w) (.tup [.str "song", .str "singer", .str "fresh"]) = some (.bl s)
  bD : eqO (.str w) (.str "behind") = some (.bl b)
  nD : eqO (.str w) (.str "never") = some (.bl n)
  nN : neO (.str w) (.str "never") = some (.bl (!n))
  mD : eqO (.str w) (.str "most") = some (.bl m)
  wD : eqO (.str w) (.str "wheel") = some (.bl h)
theorem hw_of {w : Str} {s b n m h : Bool} (q : Hd w s b n m h) : Hw w s b n m h := by
  refine ⟨?_, ?_, ?_, ?_, ?_, ?_⟩
  · have e := in_strs w ["song", "singer", "fresh"]
    rw [← q.s]
    refine e.trans ?_
    congr 2
    rw [decide_eq_decide]
    simp
  · rw [eqO_ss, q.b]
  · rw [eqO_ss, q.n]
  · rw [neO_ss, q.n]
  · rw [eqO_ss, q.m]
  · rw [eqO_ss, q.w]
theorem ln_lst (xs : List D) : lenD [.lst xs] = some (.int (xs.length : Int)) := rfl
/-- what a row is: the program's rule, the law's parts -/
def RowOk (x w : Str) (ps : List Str) : Prop := ∃ r, F_rule_in [.str x] = .ok r [] ∧ good r = true ∧
  ((ruleB r = true ∧ wds r = w :: ps ∧ ∃ tl, r = .tup (.str w :: tl) ∧ F__law_parts_in [.str w, .lst (ps.map D.str)] = .ok (.tup tl) [] ∧ inD .non (.tup tl) = some (.bl false)) ∨
   (ruleB r = false ∧ ∃ pt, F__law_parts_in [.str w, .lst (ps.map D.str)] = .ok (.tup pt) [] ∧ inD .non (.tup pt) = some (.bl true)))
theorem non_one : inD .non (.tup [.non]) = some (.bl true) := by kernel_rfl
section
variable {x w : Str} {ps : List Str} {s b n m h : Bool}
theorem row_num (sp : splitD (.str x) (.str " ") = some (.lst ((w :: [a]).map D.str))) (q : Hd w true false false false false) : RowOk x w [a] := by
  have H := hw_of q
  have sp : splitD (.str x) (.str " ") = some (.lst [.str w, .str a]) := sp
  have j0 : ixD (.lst [.str w, .str a]) (.int 0) = some (.str w) := rfl
  have k1 := cut1L (.str w) [.str a]
  have c1 := fun ρ => call_val (fl := [false]) (F := F_number_in) (rs := [.val (.str a)]) (ρ := ρ) rfl rfl (nuin_ok a) (.inl rfl)
  have c2 := fun ρ => call_val (fl := [false, false, false]) (F := F__law_figures) (rs := [.val (.str a), .val (.int 0), .val (.int 99999)]) (ρ := ρ) rfl rfl (figures_ok a 0 99999) (.inl rfl)
  have i0 : ixD (.lst [.str a]) (.int 0) = some (.str a) := rfl
  have ln : lenD [.lst [.str a]] = some (.int 1) := rfl
  have rb : ruleB (.tup [.str w, nuD a]) = betB 0 99999 (nuD a) := by simp only [ruleB, q.s, q.b, q.n, q.m, q.w, cond_true, cond_false]
  have e1 : F_rule_in [.str x] = .ok (.tup [.str w, nuD a]) [] := by
    obtain ⟨_, hb, hn, _, hm, hw⟩ := H
    generalize nuD a = N at *
    clear rb q
    generalize hA : D.str a = A at *
    generalize hW : D.str w = W at *
    generalize hX : D.str x = X at *
    generalize D.lst [A] = L1 at *
    generalize D.lst [W, A] = L0 at *
    subst hX
    simp [F_rule_in, m_rule_in, eSplit, isStr, sp, sPar, j0, eSl, oSome, oNo, asI, k1, hw, hb, hn, hm, ln, i0, c1]
  have e2 : F__law_parts_in [.str w, .lst [.str a]] = .ok (.tup [if betB 0 99999 (nuD a) then nuD a else .non]) [] := by
    obtain ⟨hs, _, _, _, _, _⟩ := H
    generalize (if betB 0 99999 (nuD a) then nuD a else D.non) = N at *
    clear rb q e1 sp j0 k1 c1
    generalize D.str a = A at *
    generalize D.lst [A] = L1 at *
    generalize D.str w = W at *
    simp [F__law_parts_in, m__law_parts_in, ln, hs, i0, c2]
  refine ⟨_, e1, ?_, ?_⟩
  · rw [good_tup]
    simp [good, nu_good a]
  · cases hB : betB 0 99999 (nuD a) with
    | true =>
      rw [hB] at rb e2
      obtain ⟨k, hk, e, en⟩ := nu_int hB
      refine .inl ⟨rb, ?_, [nuD a], rfl, e2, ?_⟩
      · rw [en, e]
        rfl
      · rw [en, in_non rfl]
        rfl
    | false =>
      rw [hB] at rb e2
      exact .inr ⟨rb, [.non], e2, non_one⟩
theorem row_behind {a c : Str} (sp : splitD (.str x) (.str " ") = some (.lst ((w :: [a, c]).map D.str))) (q : Hd w false true false false false) : RowOk x w [a, c] := by
  have H := hw_of q
  have sp : splitD (.str x) (.str " ") = some (.lst [.str w, .str a, .str c]) := sp
  have j0 : ixD (.lst [.str w, .str a, .str c]) (.int 0) = some (.str w) := rfl
  have k1 := cut1L (.str w) [.str a, .str c]
  have c2 := fun ρ => call_val (fl := [false]) (F := F__law_kind_in) (rs := [.val (.str a)]) (ρ := ρ) rfl rfl (kind_in_ok a) (.inl rfl)
  have c3 := fun ρ => call_val (fl := [false]) (F := F__law_kind_in) (rs := [.val (.str c)]) (ρ := ρ) rfl rfl (kind_in_ok c) (.inl rfl)
  have i0 : ixD (.lst [.str a, .str c]) (.int 0) = some (.str a) := rfl
  have i1 : ixD (.lst [.str a, .str c]) (.int 1) = some (.str c) := rfl
  have ln : lenD [.lst [.str a, .str c]] = some (.int 2) := rfl
  have tu : tuple3D [.lst [.str a, .str c]] = some (.tup [.str a, .str c]) := rfl
  have ad : addD (.tup [.str w]) (.tup [.str a, .str c]) = some (.tup [.str w, .str a, .str c]) := add_tup (by simp only [List.length_cons, List.length_nil]; omega)
  have rb : ruleB (.tup [.str w, .str a, .str c]) = (kindB (.str a) && kindB (.str c)) := by simp only [ruleB, q.s, q.b, q.n, q.m, q.w, cond_true, cond_false]
  have e1 : F_rule_in [.str x] = .ok (.tup [.str w, .str a, .str c]) [] := by
    obtain ⟨_, hb, hn, _, hm, hw⟩ := H
    clear rb q c2 c3
    generalize D.str a = A at *
    generalize D.str c = C at *
    generalize D.str w = W at *
    generalize hX : D.str x = X at *
    generalize D.lst [A, C] = L1 at *
    generalize D.lst [W, A, C] = L0 at *
    subst hX
    simp [F_rule_in, m_rule_in, eSplit, isStr, sp, sPar, j0, eSl, oSome, oNo, asI, k1, hw, hb, tu, ad]
  have e2 : F__law_parts_in [.str w, .lst [.str a, .str c]] = .ok (.tup [if kindB (.str a) then .str a else .non, if kindB (.str c) then .str c else .non]) [] := by
    obtain ⟨hs, hb, _, _, _, _⟩ := H
    generalize (if kindB (.str a) = true then D.str a else D.non) = N at *
    generalize (if kindB (.str c) = true then D.str c else D.non) = N2 at *
    clear rb q e1 sp j0 k1 ad tu
    generalize D.str a = A at *
    generalize D.str c = C at *
    generalize D.lst [A, C] = L1 at *
    generalize D.str w = W at *
    simp [F__law_parts_in, m__law_parts_in, ln, hs, hb, i0, i1, c2, c3]
  refine ⟨_, e1, by rw [good_tup]; simp [good_str], ?_⟩
  cases hA : kindB (.str a) <;> cases hC : kindB (.str c) <;> rw [hA, hC] at rb e2
  · exact .inr ⟨rb, _, e2, by kernel_rfl⟩
  · exact .inr ⟨rb, _, e2, in_non rfl⟩
  · exact .inr ⟨rb, _, e2, in_non rfl⟩
  · exact .inl ⟨rb, rfl, _, rfl, e2, in_non rfl⟩
theorem row_most {a c d : Str} (sp : splitD (.str x) (.str " ") = some (.lst ((w :: [a, c, d]).map D.str))) (q : Hd w false false false true false) : RowOk x w [a, c, d] := by
  have H := hw_of q
  have sp : splitD (.str x) (.str " ") = some (.lst [.str w, .str a, .str c, .str d]) := sp
  have j0 : ixD (.lst [.str w, .str a, .str c, .str d]) (.int 0) = some (.str w) := rfl
  have k1 := cut1L (.str w) [.str a, .str c, .str d]
  have c1 := fun ρ => call_val (fl := [false]) (F := F__law_kind_in) (rs := [.val (.str a)]) (ρ := ρ) rfl rfl (kind_in_ok a) (.inl rfl)
  have c2 := fun ρ => call_val (fl := [false, false, false]) (F := F__law_figures) (rs := [.val (.str c), .val (.int 1), .val (.int 99)]) (ρ := ρ) rfl rfl (figures_ok c 1 99) (.inl rfl)
  have c3 := fun ρ => call_val (fl := [false, false, false]) (F := F__law_figures) (rs := [.val (.str d), .val (.int 0), .val (.int 99999)]) (ρ := ρ) rfl rfl (figures_ok d 0 99999) (.inl rfl)
  have p2 := fun ρ => call_val (fl := [false]) (F := F_number_in) (rs := [.val (.str c)]) (ρ := ρ) rfl rfl (nuin_ok c) (.inl rfl)
  have p3 := fun ρ => call_val (fl := [false]) (F := F_number_in) (rs := [.val (.str d)]) (ρ := ρ) rfl rfl (nuin_ok d) (.inl rfl)
  have i0 : ixD (.lst [.str a, .str c, .str d]) (.int 0) = some (.str a) := rfl
  have i1 : ixD (.lst [.str a, .str c, .str d]) (.int 1) = some (.str c) := rfl
  have i2 : ixD (.lst [.str a, .str c, .str d]) (.int 2) = some (.str d) := rfl
  have ln : lenD [.lst [.str a, .str c, .str d]] = some (.int 3) := rfl
  have rb : ruleB (.tup [.str w, .str a, nuD c, nuD d]) = (kindB (.str a) && (betB 1 99 (nuD c) && betB 0 99999 (nuD d))) := by simp only [ruleB, q.s, q.b, q.n, q.m, q.w, cond_true, cond_false]
  have e1 : F_rule_in [.str x] = .ok (.tup [.str w, .str a, nuD c, nuD d]) [] := by
    obtain ⟨_, hb, hn, _, hm, hw⟩ := H
    clear rb q c1 c2 c3
    generalize nuD c = NC at *
    generalize nuD d = ND at *
    generalize D.str a = A at *
    generalize D.str c = C at *
    generalize D.str d = E at *
    generalize D.str w = W at *
    generalize hX : D.str x = X at *
    generalize D.lst [A, C, E] = L1 at *
    generalize D.lst [W, A, C, E] = L0 at *
    subst hX
    simp [F_rule_in, m_rule_in, eSplit, isStr, sp, sPar, j0, eSl, oSome, oNo, asI, k1, hw, hb, hn, hm, ln, i0, i1, i2, p2, p3]
  have e2 : F__law_parts_in [.str w, .lst [.str a, .str c, .str d]] = .ok (.tup [if kindB (.str a) then .str a else .non, if betB 1 99 (nuD c) then nuD c else .non, if betB 0 99999 (nuD d) then nuD d else .non]) [] := by
    obtain ⟨hs, hb, _, _, hm, _⟩ := H
    generalize (if kindB (.str a) = true then D.str a else D.non) = N at *
    generalize (if betB 1 99 (nuD c) = true then nuD c else D.non) = N2 at *
    generalize (if betB 0 99999 (nuD d) = true then nuD d else D.non) = N3 at *
    clear rb q e1 sp j0 k1 p2 p3
    generalize D.str a = A at *
    generalize D.str c = C at *
    generalize D.str d = E at *
    generalize D.lst [A, C, E] = L1 at *
    generalize D.str w = W at *
    simp [F__law_parts_in, m__law_parts_in, ln, hs, hb, hm, i0, i1, i2, c1, c2, c3]
  refine ⟨_, e1, ?_, ?_⟩
  · rw [good_tup]
    simp [good, nu_good]
  · have oc := ok_nu c 60
    have od := ok_nu d 60
    cases hA : kindB (.str a) <;> cases hC : betB 1 99 (nuD c) <;> cases hD : betB 0 99999 (nuD d) <;> rw [hA, hC, hD] at rb e2
    · exact .inr ⟨rb, _, e2, by kernel_rfl⟩
    · exact .inr ⟨rb, _, e2, by rw [in_non (by simp [okL, od, okD])]; simp [anyD, eq_nn]⟩
    · exact .inr ⟨rb, _, e2, by rw [in_non (by simp [okL, oc, okD])]; simp [anyD, eq_nn]⟩
    · exact .inr ⟨rb, _, e2, by rw [in_non (by simp [okL, oc, od, okD])]; simp [anyD, eq_nn]⟩
    · exact .inr ⟨rb, _, e2, by kernel_rfl⟩
    · exact .inr ⟨rb, _, e2, by rw [in_non (by simp [okL, od, okD])]; simp [anyD, eq_nn]⟩
    · exact .inr ⟨rb, _, e2, by rw [in_non (by simp [okL, oc, okD])]; simp [anyD, eq_nn]⟩
    · obtain ⟨k, hk, e, en⟩ := nu_int hC
      obtain ⟨k2, hk2, e', en2⟩ := nu_int hD
      refine .inl ⟨rb, ?_, _, rfl, e2, ?_⟩
      · rw [en, en2, e, e']
        rfl
      · rw [en, en2, in_non rfl]
        rfl
theorem okL_strs' (l : List Str) : okL 59 (l.map D.str) = true := okL_strs 59 l
theorem row_wheel (hl : ps.length < 10000) (sp : splitD (.str x) (.str " ") = some (.lst ((w :: ps).map D.str))) (q : Hd w false false false false true) : RowOk x w ps := by
  have H := hw_of q
  have sp : splitD (.str x) (.str " ") = some (.lst (.str w :: ps.map D.str)) := sp
  have j0 : ixD (.lst (.str w :: ps.map D.str)) (.int 0) = some (.str w) := ix_lst (.str w :: ps.map D.str) 0 (by simp)
  have k1 := cut1L (.str w) (ps.map D.str)
  have c1 := fun ρ => call_val (fl := [false]) (F := F__law_words_in) (rs := [.val (.lst (ps.map D.str))]) (ρ := ρ) rfl rfl (words_in_ok ps) (.inl rfl)
  have ln := ln_lst (ps.map D.str)
  have tu : tuple3D [.lst (ps.map D.str)] = some (.tup (ps.map D.str)) := rfl
  have rb : ruleB (.tup [.str w, .tup (ps.map D.str)]) = wordsB (.tup (ps.map D.str)) := by simp only [ruleB, q.s, q.b, q.n, q.m, q.w, cond_true, cond_false]
  have gp : good (.tup (ps.map D.str)) = true := by
    rw [good_tup, List.length_map, decide_eq_true (by omega : ps.length < 16000), Bool.and_true, List.all_eq_true]
    intro d hd
    obtain ⟨y, _, rfl⟩ := List.mem_map.mp hd
    simp [good]
  have st : (ps.map D.str).map stS = ps := st_strs ps
  have ok : okL 60 [.tup (ps.map D.str)] = true := by
    show (okL 59 (ps.map D.str) && true) = true
    rw [okL_strs' ps]
    rfl
  have e1 : F_rule_in [.str x] = .ok (.tup [.str w, .tup (ps.map D.str)]) [] := by
    obtain ⟨_, hb, hn, _, hm, hw⟩ := H
    clear rb q c1 ok gp st
    generalize D.tup (ps.map D.str) = T1 at *
    generalize D.lst (ps.map D.str) = L1 at *
    generalize D.lst (D.str w :: ps.map D.str) = L0 at *
    generalize D.str w = W at *
    generalize hX : D.str x = X at *
    subst hX
    simp [F_rule_in, m_rule_in, eSplit, isStr, sp, sPar, j0, eSl, oSome, oNo, asI, k1, hw, tu]
  have e2 : F__law_parts_in [.str w, .lst (ps.map D.str)] = .ok (.tup [if wordsB (.tup (ps.map D.str)) then .tup (ps.map D.str) else .non]) [] := by
    obtain ⟨hs, hb, _, _, hm, hw⟩ := H
    generalize (if wordsB (.tup (ps.map D.str)) = true then D.tup (ps.map D.str) else D.non) = N at *
    generalize ((ps.map D.str).length : Int) = ll at *
    clear rb q e1 sp j0 k1 tu gp st ok
    generalize D.lst (ps.map D.str) = L1 at *
    generalize D.str w = W at *
    simp [F__law_parts_in, m__law_parts_in, ln, hs, hb, hm, hw, c1]
  refine ⟨_, e1, ?_, ?_⟩
  · rw [good_tup]
    simp [good_str, gp]
  · cases hB : wordsB (.tup (ps.map D.str)) with
    | true =>
      rw [hB] at rb e2
      refine .inl ⟨rb, ?_, _, rfl, e2, ?_⟩
      · show w :: (ps.map D.str).map stS = _
        rw [st]
      · rw [in_non ok]
        rfl
    | false =>
      rw [hB] at rb e2
      exact .inr ⟨rb, _, e2, non_one⟩
theorem row_never {a c d e : Str} (hc : c.length < 4000) (sp : splitD (.str x) (.str " ") = some (.lst ((w :: [a, c, d, e]).map D.str))) (q : Hd w false false true false false) : RowOk x w [a, c, d, e] := by
  have H := hw_of q
  have sp : splitD (.str x) (.str " ") = some (.lst [.str w, .str a, .str c, .str d, .str e]) := sp
  have j0 : ixD (.lst [.str w, .str a, .str c, .str d, .str e]) (.int 0) = some (.str w) := rfl
  have k1 := cut1L (.str w) [.str a, .str c, .str d, .str e]
  have c1 := fun ρ => call_val (fl := [false]) (F := F__law_kind_in) (rs := [.val (.str a)]) (ρ := ρ) rfl rfl (kind_in_ok a) (.inl rfl)
  have c2 := fun ρ => call_val (fl := [false]) (F := F__law_days_in) (rs := [.val (.str c)]) (ρ := ρ) rfl rfl (law_days_in_ok hc) (.inl rfl)
  have c3 := fun ρ => call_val (fl := [false, false, false]) (F := F__law_figures) (rs := [.val (.str d), .val (.int 0), .val (.int 23)]) (ρ := ρ) rfl rfl (figures_ok d 0 23) (.inl rfl)
  have c4 := fun ρ => call_val (fl := [false, false, false]) (F := F__law_figures) (rs := [.val (.str e), .val (.int 1), .val (.int 24)]) (ρ := ρ) rfl rfl (figures_ok e 1 24) (.inl rfl)
  have p2 := fun ρ => call_val (fl := [false]) (F := F_days_in) (rs := [.val (.str c)]) (ρ := ρ) rfl rfl (days_in_ok c) (.inl rfl)
  have p3 := fun ρ => call_val (fl := [false]) (F := F_number_in) (rs := [.val (.str d)]) (ρ := ρ) rfl rfl (nuin_ok d) (.inl rfl)
  have p4 := fun ρ => call_val (fl := [false]) (F := F_number_in) (rs := [.val (.str e)]) (ρ := ρ) rfl rfl (nuin_ok e) (.inl rfl)
  have i0 : ixD (.lst [.str a, .str c, .str d, .str e]) (.int 0) = some (.str a) := rfl
  have i1 : ixD (.lst [.str a, .str c, .str d, .str e]) (.int 1) = some (.str c) := rfl
  have i2 : ixD (.lst [.str a, .str c, .str d, .str e]) (.int 2) = some (.str d) := rfl
  have i3 : ixD (.lst [.str a, .str c, .str d, .str e]) (.int 3) = some (.str e) := rfl
  have ln : lenD [.lst [.str a, .str c, .str d, .str e]] = some (.int 4) := rfl
  have rb : ruleB (.tup [.str w, .str a, dayD c, nuD d, nuD e]) = (kindB (.str a) && (daysB (dayD c) && hoursB (nuD d) (nuD e))) := by simp only [ruleB, q.s, q.b, q.n, q.m, q.w, cond_true, cond_false]
  have e1 : F_rule_in [.str x] = .ok (.tup [.str w, .str a, dayD c, nuD d, nuD e]) [] := by
    obtain ⟨_, hb, hn, _, hm, hw⟩ := H
    clear rb q c1 c2 c3 c4
    generalize dayD c = NC at *
    generalize nuD d = ND at *
    generalize nuD e = NE at *
    generalize D.str a = A at *
    generalize D.str c = C at *
    generalize D.str d = E at *
    generalize D.str e = F at *
    generalize D.str w = W at *
    generalize hX : D.str x = X at *
    generalize D.lst [A, C, E, F] = L1 at *
    generalize D.lst [W, A, C, E, F] = L0 at *
    subst hX
    simp [F_rule_in, m_rule_in, eSplit, isStr, sp, sPar, j0, eSl, oSome, oNo, asI, k1, hw, hb, hn, ln, i0, i1, i2, i3, p2, p3, p4]
  have gd : good (.tup [.str w, .str a, dayD c, nuD d, nuD e]) = true := by
    rw [good_tup]
    simp [good_str, nu_good, days_good hc]
  refine ⟨_, e1, gd, ?_⟩
  have od := ok_nu d 60
  have oe := ok_nu e 60
  have oc : okD 60 (dayD c) = true := by
    unfold dayD
    split
    · exact okL_ints 59 _
    · rfl
  have nz : inD .non (.tup [.non]) = some (.bl true) := non_one
  -- the four parts
  obtain ⟨A, hA⟩ : ∃ A, A = (if kindB (.str a) then D.str a else .non) := ⟨_, rfl⟩
  obtain ⟨C, hC⟩ : ∃ C, C = (if daysB (dayD c) then dayD c else .non) := ⟨_, rfl⟩
  obtain ⟨E, hE⟩ : ∃ E, E = (if betB 0 23 (nuD d) then nuD d else .non) := ⟨_, rfl⟩
  obtain ⟨F, hF⟩ : ∃ F, F = (if betB 1 24 (nuD e) then nuD e else .non) := ⟨_, rfl⟩
  rw [← hA] at c1
  rw [← hC] at c2
  rw [← hE] at c3
  rw [← hF] at c4
  have z0 : intD [.bl false] = some (.int 0) := rfl
  have z1 : intD [.bl true] = some (.int 1) := rfl
  have ad : addD (.tup [A, C, E]) (.tup [F]) = some (.tup [A, C, E, F]) := add_tup (by simp only [List.length_cons, List.length_nil]; omega)
  have t2 : ixD (.tup [A, C, E, F]) (.int 2) = some E := rfl
  have t3 : ixD (.tup [A, C, E, F]) (.int 3) = some F := rfl
  have u0 : ∀ u v : D, ixD (.lst [u, v]) (.int 0) = some u := fun _ _ => rfl
  have u1 : ∀ u v : D, ixD (.lst [u, v]) (.int 1) = some v := fun _ _ => rfl
  have okA : okL 60 [A, C, E, F] = true := by
    have a1 : okD 60 A = true := by rw [hA]; split <;> rfl
    have a2 : okD 60 C = true := by rw [hC]; split; exact oc; rfl
    have a3 : okD 60 E = true := by rw [hE]; split; exact od; rfl
    have a4 : okD 60 F = true := by rw [hF]; split; exact oe; rfl
    simp [okL, a1, a2, a3, a4]
  have ins := in_non okA
  -- none within: no rule
  by_cases hall : kindB (.str a) = true ∧ daysB (dayD c) = true ∧ betB 0 23 (nuD d) = true ∧ betB 1 24 (nuD e) = true
  · obtain ⟨b1, b2, b3, b4⟩ := hall
    rw [b1] at hA
    rw [b2] at hC
    rw [b3] at hE
    rw [b4] at hF
    have hA : A = .str a := hA
    have hC : C = dayD c := hC
    obtain ⟨k, hk, ek, enk⟩ := nu_int b3
    obtain ⟨k2, hk2, ek2, enk2⟩ := nu_int b4
    have hE : E = .int (k : Int) := hE.trans enk
    have hF : F = .int (k2 : Int) := hF.trans enk2
    obtain ⟨ds, hds, hj⟩ := days_wds b2
    have hB : hoursB (nuD d) (nuD e) = decide ((k : Int) < (k2 : Int)) := by
      show (betB 0 23 (nuD d) && (betB 1 24 (nuD e) && ltB (nuD d) (nuD e))) = _
      rw [b3, b4, enk, enk2]
      rfl
    have an : anyD .non [A, C, E, F] = false := by
      rw [hA, hC, hE, hF, hds]
      rfl
    rw [an] at ins
    rw [b1, b2, hB] at rb
    have g2 : ge2 E F = some (.bl (decide ((k2 : Int) ≤ (k : Int)))) := by rw [hE, hF]; simp
    by_cases lt : (k : Int) < (k2 : Int)
    · have g3 : decide ((k2 : Int) ≤ (k : Int)) = false := decide_eq_false (by omega)
      rw [g3] at g2
      have e2 : F__law_parts_in [.str w, .lst [.str a, .str c, .str d, .str e]] = .ok (.tup [A, C, E, F]) [] := by
        obtain ⟨hs, hb, hn, hN, hm, hw⟩ := H
        clear rb q e1 sp j0 k1 p2 p3 p4 gd od oe oc okA hds hj hB an enk enk2 ek ek2 hA hC hE hF b1 b2 b3 b4
        generalize D.tup [A, C, E, F] = TT at *
        generalize D.str a = A' at *
        generalize D.str c = C' at *
        generalize D.str d = E' at *
        generalize D.str e = F' at *
        generalize D.lst [A', C', E', F'] = L1 at *
        generalize D.str w = W at *
        simp [F__law_parts_in, m__law_parts_in, ln, hs, hb, hm, hw, hN, i0, i1, i2, i3, c1, c2, c3, c4, ad, ins, t2, t3, g2, z0, u0]
      rw [decide_eq_true lt] at rb
      refine .inl ⟨rb, ?_, [.str a, dayD c, nuD d, nuD e], rfl, ?_, ?_⟩
      · rw [hds, enk, enk2]
        show [w, a, Txt.join ⟨#[]⟩ (ds.map stS), numS (k : Int), numS (k2 : Int)] = _
        rw [hj, ← ek, ← ek2]
      · exact e2.trans (by rw [hA, hC, hE, hF, enk, enk2])
      · rw [← hA, ← hC, enk, enk2, ← hE, ← hF]
        exact ins
    · have g3 : decide ((k2 : Int) ≤ (k : Int)) = true := decide_eq_true (by omega)
      rw [g3] at g2
      have e2 : F__law_parts_in [.str w, .lst [.str a, .str c, .str d, .str e]] = .ok (.tup [.non]) [] := by
        obtain ⟨hs, hb, hn, hN, hm, hw⟩ := H
        clear rb q e1 sp j0 k1 p2 p3 p4 gd od oe oc okA hds hj hB an enk enk2 ek ek2 hA hC hE hF b1 b2 b3 b4
        generalize D.tup [A, C, E, F] = TT at *
        generalize D.str a = A' at *
        generalize D.str c = C' at *
        generalize D.str d = E' at *
        generalize D.str e = F' at *
        generalize D.lst [A', C', E', F'] = L1 at *
        generalize D.str w = W at *
        simp [F__law_parts_in, m__law_parts_in, ln, hs, hb, hm, hw, hN, i0, i1, i2, i3, c1, c2, c3, c4, ad, ins, t2, t3, g2, z1, u1]
      rw [decide_eq_false lt] at rb
      exact .inr ⟨rb, _, e2, nz⟩
  · have an : anyD .non [A, C, E, F] = true := by
      show (eqD A .non || (eqD C .non || (eqD E .non || (eqD F .non || false)))) = true
      by_cases b1 : kindB (.str a) = true
      · by_cases b2 : daysB (dayD c) = true
        · by_cases b3 : betB 0 23 (nuD d) = true
          · have b4 : ¬ betB 1 24 (nuD e) = true := fun b4 => hall ⟨b1, b2, b3, b4⟩
            rw [if_neg b4] at hF
            rw [hF, eq_nn]
            simp
          · rw [if_neg b3] at hE
            rw [hE, eq_nn]
            simp
        · rw [if_neg b2] at hC
          rw [hC, eq_nn]
          simp
      · rw [if_neg b1] at hA
        rw [hA, eq_nn]
        simp
    rw [an] at ins
    have rb2 : ruleB (.tup [.str w, .str a, dayD c, nuD d, nuD e]) = false := by
      rw [rb]
      cases r : (kindB (.str a) && (daysB (dayD c) && hoursB (nuD d) (nuD e))) with
      | false => rfl
      | true =>
        have r : (kindB (.str a) && (daysB (dayD c) && (betB 0 23 (nuD d) && (betB 1 24 (nuD e) && ltB (nuD d) (nuD e))))) = true := r
        simp only [Bool.and_eq_true] at r
        exact absurd ⟨r.1, r.2.1, r.2.2.1, r.2.2.2.1⟩ hall
    have e2 : F__law_parts_in [.str w, .lst [.str a, .str c, .str d, .str e]] = .ok (.tup [.non]) [] := by
      obtain ⟨hs, hb, hn, hN, hm, hw⟩ := H
      clear rb rb2 q e1 sp j0 k1 p2 p3 p4 gd od oe oc okA an hA hC hE hF hall
      generalize D.tup [A, C, E, F] = TT at *
      generalize D.str a = A' at *
      generalize D.str c = C' at *
      generalize D.str d = E' at *
      generalize D.str e = F' at *
      generalize D.lst [A', C', E', F'] = L1 at *
      generalize D.str w = W at *
      simp [F__law_parts_in, m__law_parts_in, ln, hs, hb, hm, hw, hN, i0, i1, i2, i3, c1, c2, c3, c4, ad, ins, z1, u1]
    exact .inr ⟨rb2, _, e2, nz⟩
end
end NV

set_option Elab.async false
set_option linter.all false
set_option maxRecDepth 100000
set_option maxHeartbeats 8000000
namespace NV
open PySem PySem.Spec PyProof.Rows L2 PySem.NumText
/-! rows that are no rules by their shape -/
section
variable {x w : Str} {ps : List Str} {s b n m h : Bool}
theorem parts_off (q : Hd w s b n m false) (h1 : s = true → ps.length ≠ 1) (h2 : b = true → ps.length ≠ 2) (h3 : m = true → ps.length ≠ 3) (h4 : n = true → ps.length ≠ 4) : F__law_parts_in [.str w, .lst (ps.map D.str)] = .ok (.tup [.non]) [] := by
  have H := hw_of q
  have ln := ln_lst (ps.map D.str)
  have h1 : s = true → ¬ ((ps.map D.str).length : Int) = 1 := fun e => by have := h1 e; rw [List.length_map]; omega
  have h2 : b = true → ¬ ((ps.map D.str).length : Int) = 2 := fun e => by have := h2 e; rw [List.length_map]; omega
  have h3 : m = true → ¬ ((ps.map D.str).length : Int) = 3 := fun e => by have := h3 e; rw [List.length_map]; omega
  have h4 : n = true → ¬ ((ps.map D.str).length : Int) = 4 := fun e => by have := h4 e; rw [List.length_map]; omega
  obtain ⟨hs, hb, hn, hN, hm, hw⟩ := H
  clear q
  generalize ((ps.map D.str).length : Int) = ll at *
  generalize D.lst (ps.map D.str) = L1 at *
  generalize D.str w = W at *
  cases s with
  | true =>
    have h1 := h1 rfl
    cases b with
    | true =>
      have h2 := h2 rfl
      cases m with
      | true =>
        have h3 := h3 rfl
        cases n with
        | true => have h4 := h4 rfl; simp [F__law_parts_in, m__law_parts_in, ln, hs, hb, hm, hw, hN, h1, h2, h3, h4]
        | false => simp [F__law_parts_in, m__law_parts_in, ln, hs, hb, hm, hw, hN, h1, h2, h3]
      | false =>
        cases n with
        | true => have h4 := h4 rfl; simp [F__law_parts_in, m__law_parts_in, ln, hs, hb, hm, hw, hN, h1, h2, h4]
        | false => simp [F__law_parts_in, m__law_parts_in, ln, hs, hb, hm, hw, hN, h1, h2]
    | false =>
      cases m with
      | true =>
        have h3 := h3 rfl
        cases n with
        | true => have h4 := h4 rfl; simp [F__law_parts_in, m__law_parts_in, ln, hs, hb, hm, hw, hN, h1, h3, h4]
        | false => simp [F__law_parts_in, m__law_parts_in, ln, hs, hb, hm, hw, hN, h1, h3]
      | false =>
        cases n with
        | true => have h4 := h4 rfl; simp [F__law_parts_in, m__law_parts_in, ln, hs, hb, hm, hw, hN, h1, h4]
        | false => simp [F__law_parts_in, m__law_parts_in, ln, hs, hb, hm, hw, hN, h1]
  | false =>
    cases b with
    | true =>
      have h2 := h2 rfl
      cases m with
      | true =>
        have h3 := h3 rfl
        cases n with
        | true => have h4 := h4 rfl; simp [F__law_parts_in, m__law_parts_in, ln, hs, hb, hm, hw, hN, h2, h3, h4]
        | false => simp [F__law_parts_in, m__law_parts_in, ln, hs, hb, hm, hw, hN, h2, h3]
      | false =>
        cases n with
        | true => have h4 := h4 rfl; simp [F__law_parts_in, m__law_parts_in, ln, hs, hb, hm, hw, hN, h2, h4]
        | false => simp [F__law_parts_in, m__law_parts_in, ln, hs, hb, hm, hw, hN, h2]
    | false =>
      cases m with
      | true =>
        have h3 := h3 rfl
        cases n with
        | true => have h4 := h4 rfl; simp [F__law_parts_in, m__law_parts_in, ln, hs, hb, hm, hw, hN, h3, h4]
        | false => simp [F__law_parts_in, m__law_parts_in, ln, hs, hb, hm, hw, hN, h3]
      | false =>
        cases n with
        | true => have h4 := h4 rfl; simp [F__law_parts_in, m__law_parts_in, ln, hs, hb, hm, hw, hN, h4]
        | false => simp [F__law_parts_in, m__law_parts_in, ln, hs, hb, hm, hw, hN]
theorem rule_none (sp : splitD (.str x) (.str " ") = some (.lst ((w :: ps).map D.str))) (q : Hd w s false n m false) (h1 : ps.length ≠ 1) (h3 : m = true → ps.length ≠ 3) (h4 : n = true → ps.length ≠ 4) : F_rule_in [.str x] = .ok .non [] := by
  have H := hw_of q
  have sp : splitD (.str x) (.str " ") = some (.lst (.str w :: ps.map D.str)) := sp
  have j0 : ixD (.lst (.str w :: ps.map D.str)) (.int 0) = some (.str w) := ix_lst (.str w :: ps.map D.str) 0 (by simp)
  have k1 := cut1L (.str w) (ps.map D.str)
  have ln := ln_lst (ps.map D.str)
  have h1 : ¬ ((ps.map D.str).length : Int) = 1 := by rw [List.length_map]; omega
  have h3 : m = true → ¬ ((ps.map D.str).length : Int) = 3 := fun e => by have := h3 e; rw [List.length_map]; omega
  have h4 : n = true → ¬ ((ps.map D.str).length : Int) = 4 := fun e => by have := h4 e; rw [List.length_map]; omega
  obtain ⟨hs, hb, hn, hN, hm, hw⟩ := H
  clear q
  generalize ((ps.map D.str).length : Int) = ll at *
  generalize D.lst (ps.map D.str) = L1 at *
  generalize D.lst (D.str w :: ps.map D.str) = L0 at *
  generalize D.str w = W at *
  generalize hX : D.str x = X at *
  subst hX
  cases m with
  | true =>
    have h3 := h3 rfl
    cases n with
    | true => have h4 := h4 rfl; simp [F_rule_in, m_rule_in, eSplit, isStr, sp, sPar, j0, eSl, oSome, oNo, asI, k1, hw, hb, hn, hm, ln, h1, h3, h4]
    | false => simp [F_rule_in, m_rule_in, eSplit, isStr, sp, sPar, j0, eSl, oSome, oNo, asI, k1, hw, hb, hn, hm, ln, h1, h3]
  | false =>
    cases n with
    | true => have h4 := h4 rfl; simp [F_rule_in, m_rule_in, eSplit, isStr, sp, sPar, j0, eSl, oSome, oNo, asI, k1, hw, hb, hn, hm, ln, h1, h4]
    | false => simp [F_rule_in, m_rule_in, eSplit, isStr, sp, sPar, j0, eSl, oSome, oNo, asI, k1, hw, hb, hn, hm, ln, h1]
theorem rule_one {a : Str} (sp : splitD (.str x) (.str " ") = some (.lst ((w :: [a]).map D.str))) (q : Hd w s false n m false) : F_rule_in [.str x] = .ok (.tup [.str w, nuD a]) [] := by
  have H := hw_of q
  have sp : splitD (.str x) (.str " ") = some (.lst [.str w, .str a]) := sp
  have j0 : ixD (.lst [.str w, .str a]) (.int 0) = some (.str w) := rfl
  have k1 := cut1L (.str w) [.str a]
  have c1 := fun ρ => call_val (fl := [false]) (F := F_number_in) (rs := [.val (.str a)]) (ρ := ρ) rfl rfl (nuin_ok a) (.inl rfl)
  have i0 : ixD (.lst [.str a]) (.int 0) = some (.str a) := rfl
  have ln : lenD [.lst [.str a]] = some (.int 1) := rfl
  obtain ⟨_, hb, hn, _, hm, hw⟩ := H
  generalize nuD a = N at *
  clear q
  generalize hA : D.str a = A at *
  generalize hW : D.str w = W at *
  generalize hX : D.str x = X at *
  generalize D.lst [A] = L1 at *
  generalize D.lst [W, A] = L0 at *
  subst hX
  cases m <;> cases n <;> simp [F_rule_in, m_rule_in, eSplit, isStr, sp, sPar, j0, eSl, oSome, oNo, asI, k1, hw, hb, hn, hm, ln, i0, c1]
theorem rule_beh (hl : ps.length < 10000) (sp : splitD (.str x) (.str " ") = some (.lst ((w :: ps).map D.str))) (q : Hd w false true false false false) : F_rule_in [.str x] = .ok (.tup (.str w :: ps.map D.str)) [] := by
  have H := hw_of q
  have sp : splitD (.str x) (.str " ") = some (.lst (.str w :: ps.map D.str)) := sp
  have j0 : ixD (.lst (.str w :: ps.map D.str)) (.int 0) = some (.str w) := ix_lst (.str w :: ps.map D.str) 0 (by simp)
  have k1 := cut1L (.str w) (ps.map D.str)
  have tu : tuple3D [.lst (ps.map D.str)] = some (.tup (ps.map D.str)) := rfl
  have ad : addD (.tup [.str w]) (.tup (ps.map D.str)) = some (.tup (.str w :: ps.map D.str)) := add_tup (by rw [List.length_map]; simp only [List.length_cons, List.length_nil]; omega)
  obtain ⟨_, hb, hn, _, hm, hw⟩ := H
  clear q
  generalize D.tup (D.str w :: ps.map D.str) = T0 at *
  generalize D.tup (ps.map D.str) = T1 at *
  generalize D.lst (ps.map D.str) = L1 at *
  generalize D.lst (D.str w :: ps.map D.str) = L0 at *
  generalize D.str w = W at *
  generalize hX : D.str x = X at *
  subst hX
  simp [F_rule_in, m_rule_in, eSplit, isStr, sp, sPar, j0, eSl, oSome, oNo, asI, k1, hw, hb, tu, ad]
theorem row_ok' (hl : ps.length < 10000) (hc : ∀ p ∈ ps, p.length < 4000) (sp : splitD (.str x) (.str " ") = some (.lst ((w :: ps).map D.str))) : RowOk x w ps := by
  have gn : good .non = true := by simp [good]
  have one : ∀ {a : Str} {s n m : Bool}, ps = [a] → Hd w s false n m false → s = false → RowOk x w ps := fun {a s n m} e q hs => by
    subst hs
    subst e
    refine ⟨_, rule_one sp q, by rw [good_tup]; simp [good_str, nu_good], .inr ⟨?_, _, parts_off q (fun z => by cases z) (fun z => by cases z) (fun _ => by simp) (fun _ => by simp), non_one⟩⟩
    cases m <;> cases n <;> simp only [ruleB, q.s, q.b, q.n, q.m, q.w, cond_true, cond_false]
  rcases heads w with q | q | q | q | q | q
  · by_cases l1 : ps.length = 1
    · obtain ⟨a, rfl⟩ := List.length_eq_one_iff.mp l1
      exact row_num sp q
    · exact ⟨_, rule_none sp q l1 (fun z => by cases z) (fun z => by cases z), gn, .inr ⟨rfl, _, parts_off q (fun _ => l1) (fun z => by cases z) (fun z => by cases z) (fun z => by cases z), non_one⟩⟩
  · by_cases l2 : ps.length = 2
    · obtain ⟨a, c, rfl⟩ : ∃ a c, ps = [a, c] := by
        rcases ps with _ | ⟨a, _ | ⟨c, _ | ⟨d, r⟩⟩⟩ <;> first | exact ⟨_, _, rfl⟩ | (simp at l2)
      exact row_behind sp q
    · refine ⟨_, rule_beh hl sp q, ?_, .inr ⟨?_, _, parts_off q (fun z => by cases z) (fun _ => l2) (fun z => by cases z) (fun z => by cases z), non_one⟩⟩
      · rw [good_tup, List.length_cons, List.length_map, decide_eq_true (by omega : ps.length + 1 < 16000), Bool.and_true, List.all_eq_true]
        intro d hd
        rcases List.mem_cons.mp hd with rfl | hd
        · exact good_str w
        · obtain ⟨y, _, rfl⟩ := List.mem_map.mp hd
          exact good_str y
      · rcases ps with _ | ⟨a, _ | ⟨c, _ | ⟨d, r⟩⟩⟩
        · simp only [ruleB, q.s, q.b, q.n, q.m, q.w, cond_true, cond_false, List.map_nil]
        · simp only [ruleB, q.s, q.b, q.n, q.m, q.w, cond_true, cond_false, List.map_nil, List.map_cons]
        · exact absurd rfl l2
        · simp only [ruleB, q.s, q.b, q.n, q.m, q.w, cond_true, cond_false, List.map_cons]
  · by_cases l4 : ps.length = 4
    · obtain ⟨a, c, d, e, rfl⟩ : ∃ a c d e, ps = [a, c, d, e] := by
        rcases ps with _ | ⟨a, _ | ⟨c, _ | ⟨d, _ | ⟨e, _ | ⟨f, r⟩⟩⟩⟩⟩ <;> first | exact ⟨_, _, _, _, rfl⟩ | (simp at l4)
      exact row_never (hc c (by simp)) sp q
    · by_cases l1 : ps.length = 1
      · obtain ⟨a, e⟩ := List.length_eq_one_iff.mp l1
        exact one e q rfl
      · exact ⟨_, rule_none sp q l1 (fun z => by cases z) (fun _ => l4), gn, .inr ⟨rfl, _, parts_off q (fun z => by cases z) (fun z => by cases z) (fun z => by cases z) (fun _ => l4), non_one⟩⟩
  · by_cases l3 : ps.length = 3
    · obtain ⟨a, c, d, rfl⟩ : ∃ a c d, ps = [a, c, d] := by
        rcases ps with _ | ⟨a, _ | ⟨c, _ | ⟨d, _ | ⟨e, r⟩⟩⟩⟩ <;> first | exact ⟨_, _, _, rfl⟩ | (simp at l3)
      exact row_most sp q
    · by_cases l1 : ps.length = 1
      · obtain ⟨a, e⟩ := List.length_eq_one_iff.mp l1
        exact one e q rfl
      · exact ⟨_, rule_none sp q l1 (fun _ => l3) (fun z => by cases z), gn, .inr ⟨rfl, _, parts_off q (fun z => by cases z) (fun z => by cases z) (fun _ => l3) (fun z => by cases z), non_one⟩⟩
  · exact row_wheel hl sp q
  · by_cases l1 : ps.length = 1
    · obtain ⟨a, e⟩ := List.length_eq_one_iff.mp l1
      exact one e q rfl
    · exact ⟨_, rule_none sp q l1 (fun z => by cases z) (fun z => by cases z), gn, .inr ⟨rfl, _, parts_off q (fun z => by cases z) (fun z => by cases z) (fun z => by cases z) (fun z => by cases z), non_one⟩⟩
end
end NV

set_option Elab.async false
set_option linter.all false
set_option maxRecDepth 100000
set_option maxHeartbeats 8000000
namespace NV
open PySem PySem.Spec PyProof.Rows L2 PySem.NumText
/-! any plain text, split -/
theorem jL_mem (c : Nat) : ∀ {us : List (List Nat)} {u : List Nat}, u ∈ us → ∀ d ∈ u, d ∈ jL c us
  | [x], u, h, d, hd => by
    rw [List.mem_singleton.mp h] at hd
    exact hd
  | x :: y :: r, u, h, d, hd => by
    show d ∈ x ++ c :: jL c (y :: r)
    rcases List.mem_cons.mp h with rfl | h
    · exact List.mem_append_left _ hd
    · exact List.mem_append_right _ (List.mem_cons_of_mem _ (jL_mem c h d hd))
theorem jL_len (c : Nat) : ∀ {us : List (List Nat)}, us ≠ [] → (jL c us).length + 1 = (us.map (·.length)).sum + us.length
  | [], h => absurd rfl h
  | [x], _ => by
    show x.length + 1 = _
    simp
  | x :: y :: r, _ => by
    have ih := jL_len c (us := y :: r) (by simp)
    show (x ++ c :: jL c (y :: r)).length + 1 = _
    rw [List.length_append, List.length_cons, List.map_cons, List.sum_cons, List.length_cons]
    omega
theorem split_any {c : Nat} (hc : c < 128) {T : Str} (hs : sm T) (hl : T.length ≤ 1000000) : ∃ ws : List Str, splitD (.str T) (.str ⟨#[c]⟩) = some (.lst (ws.map D.str)) ∧ ws ≠ [] ∧ Txt.join ⟨#[c]⟩ ws = T ∧ (∀ w ∈ ws, sm w ∧ c ∉ cpL w ∧ w.length ≤ T.length ∧ ∀ d ∈ cpL w, d ∈ cpL T) ∧ ws.length ≤ T.length + 1 := by
  have h1 := StrLaws.join_split T ⟨#[c]⟩
  have h2 := StrLaws.split_free T c
  have h3 := split_pos T ⟨#[c]⟩
  generalize Txt.split T ⟨#[c]⟩ = ws at *
  have hj : Txt.join ⟨#[c]⟩ ws = T := by
    rw [show Txt.join ⟨#[c]⟩ ws = Str.join ⟨#[c]⟩ ws from StrLaws.glued_eq_join _ _, h1]
  have hn : ws ≠ [] := fun e => by rw [e] at h3; simp at h3
  have ej : jL c (ws.map cpL) = cpL T := by rw [← join_cpT, hj]
  have len := jL_len c (us := ws.map cpL) (by simpa using hn)
  rw [ej, List.map_map, List.length_map] at len
  have lm : ∀ w : Str, ((fun x => x.length) ∘ cpL) w = w.length := fun w => rfl
  have le : (ws.map ((fun x => x.length) ∘ cpL)) = ws.map (·.length) := List.map_congr_left fun w _ => lm w
  rw [le] at len
  have lT : (cpL T).length = T.length := rfl
  have mem : ∀ w ∈ ws, ∀ d ∈ cpL w, d ∈ cpL T := fun w hw d hd => by
    rw [← ej]
    exact jL_mem c (List.mem_map.mpr ⟨w, hw, rfl⟩) d hd
  have sms : ∀ w ∈ ws, sm w := fun w hw d hd => hs d (mem w hw d hd)
  have pos : 0 < ws.length := List.length_pos_iff.mpr hn
  have sp := splitD_of hc hn h2 sms (by omega)
  rw [hj] at sp
  exact ⟨ws, sp, hn, hj, fun w hw => ⟨sms w hw, h2 w hw, by have := le_sum ws w hw; omega, mem w hw⟩, by omega⟩
/-! the next rule -/
theorem cnt_add (hs : List D) (z w : Str) : cntD (hs ++ [.str z]) w = cntD hs w + (if z = w then 1 else 0) := by
  unfold cntD
  rw [List.countP_append]
  by_cases h : z = w
  · subst h
    rw [if_pos rfl]
    simp [eqD_str]
  · rw [if_neg h]
    simp [eqD_str, h]
theorem cnt_none (ss : List Str) (w : Str) (h : w ∉ ss) : cntD (ss.map D.str) w = 0 := by
  unfold cntD
  rw [List.countP_eq_zero.mpr]
  · rfl
  · intro d hd
    obtain ⟨x, hx, rfl⟩ := List.mem_map.mp hd
    rw [eqD_str]
    intro q
    exact h (of_decide_eq_true q ▸ hx)
theorem cnt_some (ss : List Str) (w : Str) (h : w ∈ ss) : 1 ≤ cntD (ss.map D.str) w := by
  unfold cntD
  have : 0 < (ss.map D.str).countP fun z => eqD z (.str w) := List.countP_pos_iff.mpr ⟨.str w, List.mem_map.mpr ⟨w, h, rfl⟩, by rw [eqD_str]; exact decide_eq_true rfl⟩
  omega
theorem next_ok {pre : List D} {r : D} {w : Str} {ss : List Str} (hp : Vr pre) (hr : ruleB r = true) (hw : hdD r = .str w) (hs : pre.map hdD = ss.map D.str) :
    rulesB (.tup (pre ++ [r])) = !((decide (w ∈ (["fresh", "wheel"] : List Str)) && decide (w ∈ ss)) || decide ((pre.length : Int) = 12)) := by
  have hf := hp.f
  have hq := hp.w
  have hl := hp.len
  have el : (pre ++ [r]).map hdD = pre.map hdD ++ [.str w] := by rw [List.map_append, List.map_cons, List.map_nil, hw]
  have al : (pre ++ [r]).all ruleB = true := List.all_eq_true.mpr fun x hx => (List.mem_append.mp hx).elim (hp.ok x) fun q => by rw [List.mem_singleton.mp q]; exact hr
  show (decide (((pre ++ [r]).length : Int) ≤ 12) && ((pre ++ [r]).all ruleB && (decide (cntD ((pre ++ [r]).map hdD) "fresh" ≤ 1) && decide (cntD ((pre ++ [r]).map hdD) "wheel" ≤ 1)))) = _
  rw [al, el, cnt_add, cnt_add, List.length_append, hs]
  rw [hs] at hf hq
  rw [Bool.eq_iff_iff]
  simp only [Bool.and_eq_true, decide_eq_true_eq, Bool.not_eq_true', Bool.or_eq_false_iff, decide_eq_false_iff_not, Bool.and_eq_false_iff, true_and, List.mem_cons, List.not_mem_nil, or_false]
  have c1 := fun h => cnt_some ss "fresh" h
  have c2 := fun h => cnt_some ss "wheel" h
  have d1 := fun h => cnt_none ss "fresh" h
  have d2 := fun h => cnt_none ss "wheel" h
  generalize cntD (ss.map D.str) "fresh" = a at *
  generalize cntD (ss.map D.str) "wheel" = b at *
  have ls : (([r] : List D).length) = 1 := rfl
  rw [ls]
  constructor
  · rintro ⟨h1, h2, h3⟩
    refine ⟨?_, by omega⟩
    by_cases hm : w ∈ ss
    · refine .inl ?_
      rintro (rfl | rfl)
      · have := c1 hm
        rw [if_pos rfl] at h2
        omega
      · have := c2 hm
        rw [if_pos rfl] at h3
        omega
    · exact .inr hm
  · rintro ⟨h1, h2⟩
    refine ⟨by omega, ?_, ?_⟩
    · split
      · rename_i q
        subst q
        have : ("fresh" : Str) ∉ ss := h1.elim (fun z => absurd (.inl rfl) z) id
        have := d1 this
        omega
      · omega
    · split
      · rename_i q
        subst q
        have : ("wheel" : Str) ∉ ss := h1.elim (fun z => absurd (.inr rfl) z) id
        have := d2 this
        omega
      · omega
end NV

set_option Elab.async false
set_option linter.all false
set_option maxRecDepth 100000
set_option maxHeartbeats 8000000
namespace NV
open PySem PySem.Spec PyProof.Rows L2 PySem.NumText
/-! the walks over the rows: the program's, the law's -/
@[simp] theorem eCompO_eq (i : Nat) (g : D → Env → Option Env) (mt : TM) (me : EM) (vs : List Nat) (ρ : Env) : eCompO i g mt me vs ρ = match ρ[i]? with
  | some s => (match ownD s with
    | some (.lst ds) => (compL g mt me vs ds [] (ρ.set i .no)).bind fun acc ρe => (match (backE (ρ.set i .no) vs (wipeE ρe vs))[i]? with
      | some .no => .ok (.lst acc) ((backE (ρ.set i .no) vs (wipeE ρe vs)).set i s)
      | _ => .bad)
    | _ => .bad)
  | none => .bad := rfl
def bDu : SM := (sSeq (sSet 4 (eSplit (eVar 3) (eC (.str " ")))) (sSeq (sSet 5 (eCall [false, false] false F__law_parts_in (aCons (rOf (eOp2 ixD (rVar 4) (rOf (eC (.int 0))))) (aCons (rOf (eSl (rVar 4) (oSome (eC (.int 1))) oNo)) aNil)))) (sSeq (sSet 6 (eAnd (eOp2 inD (rOf (eOp2 ixD (rVar 4) (rOf (eC (.int 0))))) (rOf (eTup (lCons (eC (.str "fresh")) (lCons (eC (.str "wheel")) lNil))))) (eOp2 inD (rOf (eOp2 ixD (rVar 4) (rOf (eC (.int 0))))) (rOf (eCompO 1 (gNm 7) tYesM (eOp2 ixD (rVar 7) (rOf (eC (.int 0)))) [7]))))) (sSeq (sIf (tOrM (tOfE (eOp2 inD (rOf (eC .non)) (rVar 5))) (tOrM (tOfE (eVar 6)) (tOfE (eOp2 eqO (rVar 2) (rOf (eC (.int 12))))))) (sRet (eTup (lCons (eC (.str "refused")) (lCons (eVar 2) lNil)))) sNil) (sDrop (eMut 1 isLst appD (lCons (eOp2 addD (rOf (eTup (lCons (eOp2 ixD (rVar 4) (rOf (eC (.int 0)))) lNil))) (rVar 5)) lNil)))))))
/-- what a row is told of -/
structure RowF (x : Str) (w : Str) (ps : List Str) : Prop where
  sp : splitD (.str x) (.str " ") = some (.lst ((w :: ps).map D.str))
  ok : RowOk x w ps
  jn : Txt.join ⟨#[32]⟩ (w :: ps) = x
theorem du_head (X : D) {pre : List D} (hp : Vr pre) (k : Int) {x w : Str} {ps : List Str} (F : RowF x w ps) {pt : List D} (hP : F__law_parts_in [.str w, .lst (ps.map D.str)] = .ok (.tup pt) []) {nn : Bool} (hn : inD .non (.tup pt) = some (.bl nn)) {ss : List Str} (hs : pre.map hdD = ss.map D.str) (s4 s5 s6 : Slot) :
    bDu [.v X, .o (.lst pre), .v (.int k), .v (.str x), s4, s5, s6, .no] =
      if nn || (decide (w ∈ (["fresh", "wheel"] : List Str)) && decide (w ∈ ss)) || decide (k = 12) then .rt (.tup [.str "refused", .int k]) [.v X, .o (.lst pre), .v (.int k), .v (.str x), .v (.lst ((w :: ps).map D.str)), .v (.tup pt), .v (.bl (decide (w ∈ (["fresh", "wheel"] : List Str)) && decide (w ∈ ss))), .no]
      else (sDrop (eMut 1 isLst appD (lCons (eOp2 addD (rOf (eTup (lCons (eOp2 ixD (rVar 4) (rOf (eC (.int 0)))) lNil))) (rVar 5)) lNil))) [.v X, .o (.lst pre), .v (.int k), .v (.str x), .v (.lst ((w :: ps).map D.str)), .v (.tup pt), .v (.bl (decide (w ∈ (["fresh", "wheel"] : List Str)) && decide (w ∈ ss))), .no] := by
  have sp := F.sp
  have j0 : ixD (.lst ((w :: ps).map D.str)) (.int 0) = some (.str w) := ix_lst (.str w :: ps.map D.str) 0 (by simp)
  have k1 : slD (.lst ((w :: ps).map D.str)) (some 1) none = some (.lst (ps.map D.str)) := cut1L (.str w) (ps.map D.str)
  have cP := fun ρ => call_val (fl := [false, false]) (F := F__law_parts_in) (rs := [.val (.str w), .val (.lst (ps.map D.str))]) (ρ := ρ) rfl rfl hP (.inl rfl)
  have f1 : inD (.str w) (.tup [.str "fresh", .str "wheel"]) = some (.bl (decide (w ∈ (["fresh", "wheel"] : List Str)))) := in_strs w ["fresh", "wheel"]
  have f2 : inD (.str w) (.lst (ss.map D.str)) = some (.bl (decide (w ∈ ss))) := in_strsL w ss
  obtain ⟨y, cp⟩ := comp_pure (mt := tYesM) (me := (eOp2 ixD (rVar 7) (rOf (eC (.int 0))))) (i := 7) (fun s => [.v X, .no, .v (.int k), .v (.str x), .v (.lst ((w :: ps).map D.str)), .v (.tup pt), s6, s]) (fun _ _ => rfl) (fun _ => true) hdD pre (fun _ _ => by simp) (fun d hd _ => by
    have := (rule_hd (hp.ok d hd)).1
    simp [this]) [] .no
  have fl : pre.filter (fun _ => true) = pre := List.filter_eq_self.mpr fun _ _ => rfl
  rw [List.nil_append, fl, hs] at cp
  have hk : eqO (.int k) (.int 12) = some (.bl (decide (k = 12))) := eqO_int k 12
  have k12 : (k = 12) = (decide (k = 12) = true) := by simp
  generalize decide (w ∈ (["fresh", "wheel"] : List Str)) = b1 at *
  generalize decide (w ∈ ss) = b2 at *
  generalize hb3 : decide (k = 12) = b3 at *
  clear hP hs fl F
  generalize ss.map D.str = HS at *
  generalize D.tup pt = PT at *
  generalize D.lst (ps.map D.str) = PL at *
  generalize D.lst ((w :: ps).map D.str) = WL at *
  generalize D.str w = W at *
  generalize hX : D.str x = Y at *
  subst hX
  cases b1 <;> cases b2 <;> cases b3 <;> cases nn <;> simp [bDu, eSplit, isStr, sp, j0, eSl, oSome, oNo, asI, k1, cP, f1, f2, hn, hk, ownD, cp, backE, wipeE, keepV]
end NV

set_option Elab.async false
set_option linter.all false
set_option maxRecDepth 100000
set_option maxHeartbeats 8000000
namespace NV
open PySem PySem.Spec PyProof.Rows L2 PySem.NumText
@[simp] theorem sRaise_eq (x : Str) (ρ : Env) : sRaise x ρ = .exc ⟨x, []⟩ ρ := rfl
@[simp] theorem sRaiseR_eq (x : Str) (me : EM) (ρ : Env) : sRaiseR x me ρ = (me ρ).out fun d ρ1 => .exc ⟨x, [d]⟩ ρ1 := rfl
@[simp] theorem eRow_eq (i : Nat) (ρ : Env) : eRow i ρ = match ρ[i]? with
  | some (.v (.exn c [d])) => if c = "NoText" then .ok d ρ else .bad
  | _ => .bad := rfl
@[simp] theorem sTry_eq (cs : List Str) (i : Nat) (mb ms : SM) (ρ : Env) : sTry cs i mb ms ρ = match mb ρ with
  | .exc x ρ1 => (match x.fs with
    | [] => if cs.contains x.cls then clrO i (ms (ρ1.set i (.v (.exn x.cls [])))) else .bad
    | [d] => if cs.contains x.cls then clrO i (ms (ρ1.set i (.v (.exn x.cls [d])))) else .bad
    | _ => .bad)
  | o => o := rfl
theorem call_exc {fl : List Bool} {F : List D → FRes} {rs : List RV} {ρ : Env} {ds : List D} {x : Exn} {fr : Bool} (h1 : getAll ρ rs = some ds) (h2 : ownIdx fl rs = some []) (hF : F ds = .exc x []) (hl : (lent fl rs).isEmpty = true := by rfl) : callG fl fr F rs ρ = .exc x ρ := by
  unfold callG
  rw [h1, h2]
  simp only [hF]
  have e : lentOk (lent fl rs) (.tup x.fs) [] = true := by
    unfold lentOk
    rw [hl]
    rfl
  simp [e, upO]
theorem vr_ofB {xs : List D} (h : rulesB (.tup xs) = true) : Vr xs := by
  have h : (decide ((xs.length : Int) ≤ 12) && (xs.all ruleB && (decide (cntD (xs.map hdD) "fresh" ≤ 1) && decide (cntD (xs.map hdD) "wheel" ≤ 1)))) = true := h
  simp only [Bool.and_eq_true, decide_eq_true_eq, List.all_eq_true] at h
  exact ⟨by omega, h.2.1, h.2.2.1, h.2.2.2⟩
theorem good_next {pre : List D} {r : D} (h : Vr pre) (hr : good r = true) : good (.tup (pre ++ [r])) = true := by
  have l := h.len
  rw [good_tup, List.all_append, List.all_eq_true.mpr fun r hr => good_rule (rf_of (h.ok r hr)), List.length_append, decide_eq_true (by simp only [List.length_cons, List.length_nil]; omega)]
  simp [hr]
theorem rd_step (X : D) {pre : List D} (hp : Vr pre) (k : Int) {x : Str} {r : D} (hr : F_rule_in [.str x] = .ok r []) (hg : good r = true) :
    bRd [.v X, .v (.tup pre), .v (.int k), .v (.str x)] = if rulesB (.tup (pre ++ [r])) then .nx [.v X, .v (.tup (pre ++ [r])), .v (.int k), .v (.str x)] else .exc ⟨"NoText", [.int k]⟩ [.v X, .v (.tup (pre ++ [r])), .v (.int k), .v (.str x)] := by
  have ci := fun ρ => call_val (fl := [false]) (F := F_rule_in) (rs := [.val (.str x)]) (ρ := ρ) rfl rfl hr (.inl rfl)
  have cr := fun ρ => call_val (fl := [false]) (F := F_is_rules) (rs := [.val (.tup (pre ++ [r]))]) (ρ := ρ) rfl rfl (is_rules_eq (.tup (pre ++ [r])) (good_okRules (good_next hp hg))) (.inl rfl)
  have hl := hp.len
  have ad : addD (.tup pre) (.tup [r]) = some (.tup (pre ++ [r])) := add_tup (by simp only [List.length_cons, List.length_nil]; omega)
  generalize rulesB (.tup (pre ++ [r])) = b at *
  generalize D.tup (pre ++ [r]) = T2 at *
  generalize D.tup pre = T1 at *
  cases b <;> simp [bRd, ci, ad, cr]
abbrev gRw : D → Env → Option Env := gTp 2 (gsCons (gNm 2) (gsCons (gNm 3) gsNil))
theorem two (X : D) : ∀ (xs : List Str) (pre : List D) (s2 s3 r2 r3 s4 s5 s6 : Slot), (∀ x ∈ xs, ∃ w ps, RowF x w ps) → Vr pre →
    (∃ (Rs : List D) (t2 t3 u2 u3 u4 u5 u6 : Slot), forL gRw bRd (enumF pre.length (xs.map D.str)) [.v X, .v (.tup pre), s2, s3] = .nx [.v X, .v (.tup (pre ++ Rs)), t2, t3] ∧
      forL gRw bDu (enumF pre.length (xs.map D.str)) [.v X, .o (.lst pre), r2, r3, s4, s5, s6, .no] = .nx [.v X, .o (.lst (pre ++ Rs)), u2, u3, u4, u5, u6, .no] ∧ Vr (pre ++ Rs) ∧ Rs.map rowS = xs) ∨
    (∃ (k : Nat) (t1 t2 t3 : Slot) (u : Env), forL gRw bRd (enumF pre.length (xs.map D.str)) [.v X, .v (.tup pre), s2, s3] = .exc ⟨"NoText", [.int (k : Int)]⟩ [.v X, t1, t2, t3] ∧
      forL gRw bDu (enumF pre.length (xs.map D.str)) [.v X, .o (.lst pre), r2, r3, s4, s5, s6, .no] = .rt (.tup [.str "refused", .int (k : Int)]) (.v X :: u))
  | [], pre, s2, s3, r2, r3, s4, s5, s6, _, hp => .inl ⟨[], s2, s3, r2, r3, s4, s5, s6, by rw [List.append_nil]; rfl, by rw [List.append_nil]; rfl, by rw [List.append_nil]; exact hp, rfl⟩
  | x :: xs, pre, s2, s3, r2, r3, s4, s5, s6, hF, hp => by
    obtain ⟨w, ps, F⟩ := hF x List.mem_cons_self
    obtain ⟨r, hr, hg, cases_⟩ := F.ok
    obtain ⟨ss, hs⟩ := heads_strs (List.all_eq_true.mpr hp.ok)
    have st := rd_step X hp (pre.length : Int) hr hg
    have g1 : gRw (.tup [.int ((pre.length : Nat) : Int), .str x]) [.v X, .v (.tup pre), s2, s3] = some [.v X, .v (.tup pre), .v (.int (pre.length : Int)), .v (.str x)] := rfl
    have g2 : gRw (.tup [.int ((pre.length : Nat) : Int), .str x]) [.v X, .o (.lst pre), r2, r3, s4, s5, s6, .no] = some [.v X, .o (.lst pre), .v (.int (pre.length : Int)), .v (.str x), s4, s5, s6, .no] := rfl
    rcases cases_ with ⟨hB, hW, tl, er, hP, hN⟩ | ⟨hB, pt, hP, hN⟩
    · have hd : hdD r = .str w := by rw [er]; rfl
      have nx := next_ok hp hB hd hs
      have du := du_head X hp (pre.length : Int) F hP hN hs s4 s5 s6
      rw [nx] at st
      generalize hb : ((decide (w ∈ (["fresh", "wheel"] : List Str)) && decide (w ∈ ss)) || decide ((pre.length : Int) = 12)) = b at *
      rw [Bool.false_or, hb] at du
      cases b with
      | true =>
        have st : bRd [.v X, .v (.tup pre), .v (.int (pre.length : Int)), .v (.str x)] = .exc ⟨"NoText", [.int (pre.length : Int)]⟩ [.v X, .v (.tup (pre ++ [r])), .v (.int (pre.length : Int)), .v (.str x)] := st
        have du : bDu [.v X, .o (.lst pre), .v (.int (pre.length : Int)), .v (.str x), s4, s5, s6, .no] = .rt (.tup [.str "refused", .int (pre.length : Int)]) [.v X, .o (.lst pre), .v (.int (pre.length : Int)), .v (.str x), .v (.lst ((w :: ps).map D.str)), .v (.tup tl), .v (.bl (decide (w ∈ (["fresh", "wheel"] : List Str)) && decide (w ∈ ss))), .no] := du
        refine .inr ⟨pre.length, .v (.tup (pre ++ [r])), .v (.int (pre.length : Int)), .v (.str x), [.o (.lst pre), .v (.int (pre.length : Int)), .v (.str x), .v (.lst ((w :: ps).map D.str)), .v (.tup tl), .v (.bl (decide (w ∈ (["fresh", "wheel"] : List Str)) && decide (w ∈ ss))), .no], ?_, ?_⟩
        · rw [List.map_cons, enumF]
          unfold forL
          simp only [g1, st]
        · rw [List.map_cons, enumF]
          unfold forL
          simp only [g2, du]
      | false =>
        have st : bRd [.v X, .v (.tup pre), .v (.int (pre.length : Int)), .v (.str x)] = .nx [.v X, .v (.tup (pre ++ [r])), .v (.int (pre.length : Int)), .v (.str x)] := st
        have hv : Vr (pre ++ [r]) := vr_ofB nx
        have hl := hp.len
        have tll : tl.length ≤ 16000 := by
          rw [er, good_tup, Bool.and_eq_true, decide_eq_true_eq, List.length_cons] at hg
          omega
        have ad : addD (.tup [.str w]) (.tup tl) = some r := by
          rw [er]
          exact add_tup (by simp only [List.length_cons, List.length_nil]; omega)
        have ap : appD (.lst pre) [r] = some (.lst (pre ++ [r]), .non) := by
          show (if pre.length < sizeLine then _ else _) = _
          rw [if_pos (by rw [sizeLine_eq]; omega)]
        have j0 : ixD (.lst ((w :: ps).map D.str)) (.int 0) = some (.str w) := ix_lst (.str w :: ps.map D.str) 0 (by simp)
        have put : ∀ bb : D, (sDrop (eMut 1 isLst appD (lCons (eOp2 addD (rOf (eTup (lCons (eOp2 ixD (rVar 4) (rOf (eC (.int 0)))) lNil))) (rVar 5)) lNil))) [.v X, .o (.lst pre), .v (.int (pre.length : Int)), .v (.str x), .v (.lst ((w :: ps).map D.str)), .v (.tup tl), .v bb, .no] =
            .nx [.v X, .o (.lst (pre ++ [r])), .v (.int (pre.length : Int)), .v (.str x), .v (.lst ((w :: ps).map D.str)), .v (.tup tl), .v bb, .no] := fun bb => by
          clear er hP hN hr st du F
          generalize D.lst ((w :: ps).map D.str) = WL at *
          generalize D.tup tl = TL at *
          simp [eMut, isLst, ap, ownGet, ownSet, j0, ad]
        have du2 := du.trans (put _)
        have e1 : ∀ Rs : List D, pre ++ r :: Rs = (pre ++ [r]) ++ Rs := fun Rs => by rw [List.append_assoc]; rfl
        have el : (pre ++ [r]).length = pre.length + 1 := by simp
        rcases two X xs (pre ++ [r]) (.v (.int (pre.length : Int))) (.v (.str x)) (.v (.int (pre.length : Int))) (.v (.str x)) (.v (.lst ((w :: ps).map D.str))) (.v (.tup tl)) (.v (.bl (decide (w ∈ (["fresh", "wheel"] : List Str)) && decide (w ∈ ss)))) (fun y hy => hF y (List.mem_cons_of_mem _ hy)) hv with ⟨Rs, t2, t3, u2, u3, u4, u5, u6, ih1, ih2, ih3, ih4⟩ | ⟨k, t1, t2, t3, u, ih1, ih2⟩
        · rw [el] at ih1 ih2
          refine .inl ⟨r :: Rs, t2, t3, u2, u3, u4, u5, u6, ?_, ?_, ?_, ?_⟩
          · rw [List.map_cons, enumF, e1]
            unfold forL
            simp only [g1, st]
            exact ih1
          · rw [List.map_cons, enumF, e1]
            unfold forL
            simp only [g2, du2]
            exact ih2
          · rw [e1]
            exact ih3
          · rw [List.map_cons, ih4]
            have : rowS r = x := by
              show Txt.join ⟨#[32]⟩ (wds r) = x
              rw [hW]
              exact F.jn
            rw [this]
        · rw [el] at ih1 ih2
          refine .inr ⟨k, t1, t2, t3, u, ?_, ?_⟩
          · rw [List.map_cons, enumF]
            unfold forL
            simp only [g1, st]
            exact ih1
          · rw [List.map_cons, enumF]
            unfold forL
            simp only [g2, du2]
            exact ih2
    · have du := du_head X hp (pre.length : Int) F hP hN hs s4 s5 s6
      have rb : rulesB (.tup (pre ++ [r])) = false := by
        have : (pre ++ [r]).all ruleB = false := by
          rw [List.all_append]
          simp [hB]
        simp only [rulesB, this, Bool.false_and, Bool.and_false]
      rw [rb] at st
      have st : bRd [.v X, .v (.tup pre), .v (.int (pre.length : Int)), .v (.str x)] = .exc ⟨"NoText", [.int (pre.length : Int)]⟩ [.v X, .v (.tup (pre ++ [r])), .v (.int (pre.length : Int)), .v (.str x)] := st
      rw [Bool.true_or, Bool.true_or] at du
      have du : bDu [.v X, .o (.lst pre), .v (.int (pre.length : Int)), .v (.str x), s4, s5, s6, .no] = .rt (.tup [.str "refused", .int (pre.length : Int)]) [.v X, .o (.lst pre), .v (.int (pre.length : Int)), .v (.str x), .v (.lst ((w :: ps).map D.str)), .v (.tup pt), .v (.bl (decide (w ∈ (["fresh", "wheel"] : List Str)) && decide (w ∈ ss))), .no] := du
      refine .inr ⟨pre.length, .v (.tup (pre ++ [r])), .v (.int (pre.length : Int)), .v (.str x), [.o (.lst pre), .v (.int (pre.length : Int)), .v (.str x), .v (.lst ((w :: ps).map D.str)), .v (.tup pt), .v (.bl (decide (w ∈ (["fresh", "wheel"] : List Str)) && decide (w ∈ ss))), .no], ?_, ?_⟩
      · rw [List.map_cons, enumF]
        unfold forL
        simp only [g1, st]
      · rw [List.map_cons, enumF]
        unfold forL
        simp only [g2, du]
end NV

set_option Elab.async false
set_option linter.all false
set_option maxRecDepth 100000
set_option maxHeartbeats 8000000
namespace NV
open PySem PySem.Spec PyProof.Rows L2 PySem.NumText
/-! any plain text: told alike -/
theorem rows_of {T : Str} (hs : sm T) (hl : T.length ≤ 1000) : ∃ xs : List Str, splitD (.str T) (.str "\n") = some (.lst (xs.map D.str)) ∧ Txt.join ⟨#[10]⟩ xs = T ∧ ∀ x ∈ xs, ∃ w ps, RowF x w ps := by
  obtain ⟨xs, sp, hn, hj, hx, hc⟩ := split_any (c := 10) (by decide) hs (by omega)
  rw [← nl10] at sp
  refine ⟨xs, sp, hj, fun x hm => ?_⟩
  obtain ⟨h1, h2, h3, h4⟩ := hx x hm
  obtain ⟨ws, sp2, hn2, hj2, hx2, hc2⟩ := split_any (c := 32) (by decide) h1 (by omega)
  rw [← sp32] at sp2
  cases ws with
  | nil => exact absurd rfl hn2
  | cons w ps =>
    rw [List.length_cons] at hc2
    refine ⟨w, ps, sp2, row_ok' (by omega) (fun p hp => ?_) sp2, hj2⟩
    have := (hx2 p (List.mem_cons_of_mem _ hp)).2.2.1
    omega
theorem both {T : Str} (hs : sm T) (hl : T.length ≤ 1000) :
    (∃ Rs, Vr Rs ∧ textS Rs = T ∧ F_read_rules [.str T] = .ok (.tup Rs) [] ∧ F__law_due [.str T] = .ok (.tup [.str "told", .tup Rs]) []) ∨
    (∃ k : Nat, F_read_rules [.str T] = .exc ⟨"NoText", [.int (k : Int)]⟩ [] ∧ F__law_due [.str T] = .ok (.tup [.str "refused", .int (k : Int)]) []) := by
  have ti : isT .str (.str T) = some (.bl true) := rfl
  have v0 : Vr [] := ⟨by decide, fun _ h => (by cases h), by decide +kernel, by decide +kernel⟩
  by_cases he : T = ""
  · have t0 : textS [] = "" := by decide +kernel
    have eq : eqO (.str T) (.str "") = some (.bl true) := by rw [eqO_ss, decide_eq_true he]
    refine .inl ⟨[], v0, by rw [t0, he], ?_, ?_⟩
    · generalize D.str T = X at *
      simp [F_read_rules, m_read_rules, ti, eq]
    · generalize D.str T = X at *
      simp [F__law_due, m__law_due, eq]
  · have eq : eqO (.str T) (.str "") = some (.bl false) := by rw [eqO_ss, decide_eq_false he]
    obtain ⟨xs, sp, hj, hF⟩ := rows_of hs hl
    have en : enumD (.lst (xs.map D.str)) = some (enumF 0 (xs.map D.str)) := rfl
    rcases two (.str T) xs [] .no .no .no .no .no .no .no hF v0 with ⟨Rs, t2, t3, u2, u3, u4, u5, u6, h1, h2, h3, h4⟩ | ⟨k, t1, t2, t3, u, h1, h2⟩
    · rw [List.nil_append] at h1 h2 h3
      have h1 : forL gRw bRd (enumF 0 (xs.map D.str)) _ = _ := h1
      have h2 : forL gRw bDu (enumF 0 (xs.map D.str)) _ = _ := h2
      have tx : textS Rs = T := by
        unfold textS
        rw [h4, hj]
      have tu : tuple3D [.lst Rs] = some (.tup Rs) := rfl
      refine .inl ⟨Rs, h3, tx, ?_, ?_⟩
      · unfold bRd gRw at h1
        clear h2 h4 hF tx
        generalize enumF 0 (xs.map D.str) = EN at *
        generalize D.lst (xs.map D.str) = LL at *
        generalize hTR : D.tup Rs = TR at *
        generalize hX : D.str T = X at *
        subst hX
        simp [F_read_rules, m_read_rules, ti, eq, iEnumM, eSplit, isStr, sp, en, h1]
      · unfold bDu gRw at h2
        clear h1 h4 hF tx
        generalize enumF 0 (xs.map D.str) = EN at *
        generalize D.lst (xs.map D.str) = LL at *
        generalize hTR : D.tup Rs = TR at *
        generalize D.lst Rs = LR at *
        generalize hX : D.str T = X at *
        subst hX
        simp [F__law_due, m__law_due, eq, iEnumM, eSplit, isStr, sp, en, h2, tu]
    · have h1 : forL gRw bRd (enumF 0 (xs.map D.str)) _ = _ := h1
      have h2 : forL gRw bDu (enumF 0 (xs.map D.str)) _ = _ := h2
      refine .inr ⟨k, ?_, ?_⟩
      · unfold bRd gRw at h1
        clear h2 hF
        generalize enumF 0 (xs.map D.str) = EN at *
        generalize D.lst (xs.map D.str) = LL at *
        generalize hX : D.str T = X at *
        subst hX
        simp [F_read_rules, m_read_rules, ti, eq, iEnumM, eSplit, isStr, sp, en, h1]
      · unfold bDu gRw at h2
        clear h1 hF
        generalize enumF 0 (xs.map D.str) = EN at *
        generalize D.lst (xs.map D.str) = LL at *
        generalize hX : D.str T = X at *
        subst hX
        simp [F__law_due, m__law_due, eq, iEnumM, eSplit, isStr, sp, en, h2]
theorem neO_same {a b : D} (h : pur 4 (.tup [a, b])) : neO (.tup [a, b]) (.tup [a, b]) = some (.bl false) := by
  obtain ⟨e, o⟩ := pur_same 4 h
  have o := o 60 (by decide)
  show (if okD 60 (.tup [a, b]) = true ∧ okD 60 (.tup [a, b]) = true then some (D.bl (!eqD (.tup [a, b]) (.tup [a, b]))) else none) = _
  rw [if_pos ⟨o, o⟩, e]
  rfl
theorem wo_told : Wo "told" := wo_by (by decide +kernel)
theorem told_same {Rs : List D} (h : Vr Rs) : neO (.tup [.str "told", .tup Rs]) (.tup [.str "told", .tup Rs]) = some (.bl false) :=
  neO_same (.inr ⟨_, rfl, fun x hx => by
    rcases List.mem_cons.mp hx with rfl | hx
    · exact pur_leaf (.inr ⟨_, rfl, wo_told⟩) 3
    · rw [List.mem_singleton.mp hx]
      exact h.pur⟩)
theorem ref_same (k : Nat) : neO (.tup [.str "refused", .int (k : Int)]) (.tup [.str "refused", .int (k : Int)]) = some (.bl false) := by
  have o : okD 60 (.tup [.str "refused", .int (k : Int)]) = true := rfl
  have e : eqD (.tup [.str "refused", .int (k : Int)]) (.tup [.str "refused", .int (k : Int)]) = true := by
    simp [eqD, toPy, toPyL, PyData.eqv, PyData.eqvAll]
  show (if okD 60 (.tup [.str "refused", .int (k : Int)]) = true ∧ okD 60 (.tup [.str "refused", .int (k : Int)]) = true then some (D.bl (!eqD (.tup [.str "refused", .int (k : Int)]) (.tup [.str "refused", .int (k : Int)]))) else none) = _
  rw [if_pos ⟨o, o⟩, e]
  rfl
theorem right_ok {T : Str} (hs : sm T) : F__law_right [.str T] = .ok (.bl true) [] := by
  have ln : lenD [.str T] = some (.int (T.length : Int)) := rfl
  by_cases hl : (1000 : Int) < (T.length : Int)
  · generalize (T.length : Int) = ll at *
    generalize D.str T = X at *
    simp [F__law_right, m__law_right, ln, hl]
  · rcases both hs (by omega) with ⟨Rs, v, tx, e1, e2⟩ | ⟨k, e1, e2⟩
    · have c1 := fun ρ => call_val (fl := [false]) (F := F_read_rules) (rs := [.val (.str T)]) (ρ := ρ) rfl rfl e1 (.inl rfl)
      have d1 := fun ρ => call_val (fl := [false]) (F := F__law_due) (rs := [.val (.str T)]) (ρ := ρ) rfl rfl e2 (.inl rfl)
      have et : F__law_told [.str T] = .ok (.tup [.str "told", .tup Rs]) [] := by
        generalize D.tup Rs = TR at *
        generalize D.str T = X at *
        simp [F__law_told, m__law_told, c1]
      have t1 := fun ρ => call_val (fl := [false]) (F := F__law_told) (rs := [.val (.str T)]) (ρ := ρ) rfl rfl et (.inl rfl)
      have ns := told_same v
      have i0 : ixD (.tup [.str "told", .tup Rs]) (.int 0) = some (.str "told") := rfl
      have i1 : ixD (.tup [.str "told", .tup Rs]) (.int 1) = some (.tup Rs) := rfl
      have n0 : neO (.str "told") (.str "told") = some (.bl false) := neS_self "told"
      have sh := show_rules_call v
      rw [tx] at sh
      have se : eqO (.str T) (.str T) = some (.bl true) := by rw [eqO_ss, decide_eq_true rfl]
      clear e1 e2 et tx c1
      generalize D.tup [.str "told", .tup Rs] = P at *
      generalize D.tup Rs = TR at *
      generalize (T.length : Int) = ll at *
      generalize D.str T = X at *
      simp [F__law_right, m__law_right, ln, hl, d1, t1, ns, i0, i1, n0, sh, se]
    · have c1 := fun ρ => call_exc (fl := [false]) (F := F_read_rules) (rs := [.val (.str T)]) (ρ := ρ) (fr := false) rfl rfl e1
      have d1 := fun ρ => call_val (fl := [false]) (F := F__law_due) (rs := [.val (.str T)]) (ρ := ρ) rfl rfl e2 (.inl rfl)
      have ib : isT .bool (.int (k : Int)) = some (.bl false) := rfl
      have z0 : intD [.bl false] = some (.int 0) := rfl
      have ix : ixH (.lst [.int (k : Int), .non]) (.int 0) = some (.int (k : Int)) := rfl
      have et : F__law_told [.str T] = .ok (.tup [.str "refused", .int (k : Int)]) [] := by
        generalize D.int (k : Int) = K at *
        generalize D.str T = X at *
        simp [F__law_told, m__law_told, c1, clrO, ib, z0, ix]
      have t1 := fun ρ => call_val (fl := [false]) (F := F__law_told) (rs := [.val (.str T)]) (ρ := ρ) rfl rfl et (.inl rfl)
      have ns := ref_same k
      have i0 : ixD (.tup [.str "refused", .int (k : Int)]) (.int 0) = some (.str "refused") := rfl
      have n0 : neO (.str "refused") (.str "told") = some (.bl true) := by kernel_rfl
      clear e1 e2 et c1
      generalize D.tup [.str "refused", .int (k : Int)] = P at *
      generalize (T.length : Int) = ll at *
      generalize D.str T = X at *
      simp [F__law_right, m__law_right, ln, hl, d1, t1, ns, i0, n0]
theorem right_call {T : Str} (hs : sm T) (ρ : Env) : callG [false] false F__law_right [.val (.str T)] ρ = .ok (.bl true) ρ := call_val rfl rfl (right_ok hs) (.inl rfl)
end NV

set_option Elab.async false
set_option linter.all false
set_option maxRecDepth 100000
set_option maxHeartbeats 8000000
namespace NV
open PySem PySem.Spec PyProof.Rows L2 PySem.NumText
/-! spoilt texts are plain texts -/
theorem cutL_mapR {α β : Type} (f : α → β) (xs : List α) (lo hi : Option Int) : cutL (xs.map f) lo hi = (cutL xs lo hi).map f := by
  unfold cutL
  rw [List.length_map, List.map_take, List.map_drop]
theorem cutL_sub {α : Type} (xs : List α) (lo hi : Option Int) : (cutL xs lo hi).Sublist xs := by
  unfold cutL
  exact (List.take_sublist _ _).trans (List.drop_sublist _ _)
/-- plain words, n signs and words at most -/
def tot (ws : List Str) : Nat := (ws.map (·.length)).sum + ws.length
def SW (n : Nat) (ws : List Str) : Prop := (∀ w ∈ ws, sm w) ∧ tot ws ≤ n
theorem tot_app (a b : List Str) : tot (a ++ b) = tot a + tot b := by
  unfold tot
  rw [List.map_append, List.sum_append, List.length_append]
  omega
theorem tot_sub {a b : List Str} (h : a.Sublist b) : tot a ≤ tot b := by
  induction h with
  | slnil => exact Nat.le_refl _
  | cons x h ih =>
    unfold tot at ih ⊢
    rw [List.map_cons, List.sum_cons, List.length_cons]
    omega
  | cons_cons x h ih =>
    unfold tot at ih ⊢
    rw [List.map_cons, List.sum_cons, List.length_cons, List.map_cons, List.sum_cons, List.length_cons]
    omega
theorem SW.cut {n : Nat} {ws : List Str} (h : SW n ws) (lo hi : Option Int) : SW n (cutL ws lo hi) := ⟨fun w hw => h.1 w ((cutL_sub ws lo hi).subset hw), Nat.le_trans (tot_sub (cutL_sub ws lo hi)) h.2⟩
theorem SW.app {n m : Nat} {a b : List Str} (ha : SW n a) (hb : SW m b) : SW (n + m) (a ++ b) := ⟨fun w hw => (List.mem_append.mp hw).elim (ha.1 w) (hb.1 w), by rw [tot_app]; have := ha.2; have := hb.2; omega⟩
theorem SW.one {x : Str} (h : sm x) : SW (x.length + 1) [x] := ⟨fun w hw => by rw [List.mem_singleton.mp hw]; exact h, by simp [tot]⟩
theorem SW.rev {n : Nat} {ws : List Str} (h : SW n ws) : SW n ws.reverse := ⟨fun w hw => h.1 w (List.mem_reverse.mp hw), by
  have := h.2
  unfold tot at this ⊢
  rw [List.map_reverse, List.sum_reverse, List.length_reverse]
  exact this⟩
theorem SW.up {n m : Nat} {ws : List Str} (h : SW n ws) (l : n ≤ m) : SW m ws := ⟨h.1, Nat.le_trans h.2 l⟩
theorem sw_sl {ws : List Str} (lo hi : Option Int) : slD (.lst (ws.map D.str)) lo hi = some (.lst ((cutL ws lo hi).map D.str)) := by
  show some (D.lst (cutL (ws.map D.str) lo hi)) = _
  rw [cutL_mapR]
theorem sw_len {n : Nat} {ws : List Str} (h : SW n ws) : ws.length ≤ n := by
  have := h.2
  unfold tot at this
  omega
theorem sw_add {n m : Nat} {a b : List Str} (ha : SW n a) (hb : SW m b) (hl : n + m ≤ 16777216) : addD (.lst (a.map D.str)) (.lst (b.map D.str)) = some (.lst ((a ++ b).map D.str)) := by
  have := sw_len ha
  have := sw_len hb
  show (if (a.map D.str).length + (b.map D.str).length ≤ sizeLine then _ else _) = _
  rw [if_pos (by rw [List.length_map, List.length_map, sizeLine_eq]; omega), List.map_append]
theorem sw_cat {n m : Nat} {a b : List Str} (ha : SW n a) (hb : SW m b) (hl : n + m ≤ 16777216) : catD (.lst (a.map D.str)) (.lst (b.map D.str)) = some (.lst ((a ++ b).map D.str)) := by
  have := sw_len ha
  have := sw_len hb
  rw [cat_ok (by rw [List.length_map, List.length_map]; omega), List.map_append]
theorem sm_joinT {c : Nat} (hc : c < 128) {ws : List Str} (h : ∀ w ∈ ws, sm w) : sm (Txt.join ⟨#[c]⟩ ws) := by
  rw [show Txt.join ⟨#[c]⟩ ws = Str.join ⟨#[c]⟩ ws from StrLaws.glued_eq_join _ _]
  exact sm_join (fun d hd => by
    have hd : d ∈ [c] := hd
    rw [List.mem_singleton.mp hd]
    exact hc) h
theorem sw_join {n c : Nat} (hc : c < 128) {ws : List Str} (h : SW n ws) (hl : n ≤ 16777216) : ∃ x, joinD (.str ⟨#[c]⟩) (.lst (ws.map D.str)) = some (.str x) ∧ sm x ∧ x.length ≤ n := by
  have h2 := h.2
  unfold tot at h2
  have l1 : (⟨#[c]⟩ : Str).length = 1 := rfl
  have jl := join_len ⟨#[c]⟩ ws
  rw [l1, Nat.mul_one] at jl
  refine ⟨_, joinD_of (.inl rfl) (fun d hd => ?_) h.1 (by rw [l1]; omega), sm_joinT hc h.1, by omega⟩
  have hd : d ∈ [c] := hd
  rw [List.mem_singleton.mp hd]
  exact hc
theorem sw_split {c : Nat} (hc : c < 128) {T : Str} (hs : sm T) (hl : T.length ≤ 1000000) : ∃ ws, splitD (.str T) (.str ⟨#[c]⟩) = some (.lst (ws.map D.str)) ∧ ws ≠ [] ∧ SW (T.length + 1) ws ∧ ∀ w ∈ ws, w.length ≤ T.length := by
  obtain ⟨ws, sp, hn, hj, hx, _⟩ := split_any hc hs hl
  refine ⟨ws, sp, hn, ⟨fun w hw => (hx w hw).1, ?_⟩, fun w hw => (hx w hw).2.2.1⟩
  have len := jL_len c (us := ws.map cpL) (by simpa using hn)
  rw [← join_cpT, hj, List.map_map, List.length_map] at len
  have le : (ws.map ((fun x => x.length) ∘ cpL)) = ws.map (·.length) := List.map_congr_left fun w _ => rfl
  rw [le] at len
  have lT : (cpL T).length = T.length := rfl
  unfold tot
  omega
theorem sw_ix {ws : List Str} {r : Int} (h0 : 0 ≤ r) (h1 : r < (ws.length : Int)) : ∃ x, ixD (.lst (ws.map D.str)) (.int r) = some (.str x) ∧ x ∈ ws := by
  obtain ⟨z, e, hz⟩ := ix_pick (L := ws.map D.str) h0 (by rw [List.length_map]; exact h1)
  obtain ⟨x, hx, rfl⟩ := List.mem_map.mp hz
  exact ⟨x, e, hx⟩
theorem str_sl {x : Str} (h : sm x) (lo hi : Option Int) : ∃ y, slD (.str x) lo hi = some (.str y) ∧ sm y ∧ y.length ≤ x.length := by
  refine ⟨cutS x lo hi, rfl, fun c hc => ?_, cutS_length x _ _⟩
  have hc : c ∈ (cutS x lo hi).cps.toList := hc
  unfold cutS at hc
  simp only [List.toList_toArray] at hc
  have hm : c ∈ x.cps.toList := List.mem_of_mem_drop (List.mem_of_mem_take hc)
  exact h c hm
end NV

set_option Elab.async false
set_option linter.all false
set_option maxRecDepth 100000
set_option maxHeartbeats 8000000
namespace NV
open PySem PySem.Spec PyProof.Rows L2 PySem.NumText
def SG : Str := " !\"#$&'()*+,-./0123456789:;<=>?@ABCDEFGHIJKLMNOPQRSTUVWXYZ[\\]^_`abcdefghijklmnopqrstuvwxyz{|}~\n"
def SG2 : Str := SG ++ "0123456789 \n"
theorem SG_len : SG.length = 95 := by decide +kernel
theorem SG2_len : SG2.length = 107 := by decide +kernel
theorem SG2_sm : (SG2.cps.toList.all fun c => decide (c < 128)) = true := by decide +kernel
theorem str_ix {x : Str} {r : Int} (h0 : 0 ≤ r) (h1 : r < (x.length : Int)) : ∃ c, c ∈ x.cps.toList ∧ ixD (.str x) (.int r) = some (.str ⟨#[c]⟩) := by
  obtain ⟨n, rfl⟩ := Int.eq_ofNat_of_zero_le h0
  have hl : x.cps.toList.length = x.length := Array.length_toList
  have hn : n < x.cps.toList.length := by omega
  refine ⟨x.cps.toList[n], List.getElem_mem hn, ?_⟩
  show (L2.atI x.cps.toList ((n : Nat) : Int)).map (fun c => D.str ⟨#[c]⟩) = _
  have : L2.atI x.cps.toList ((n : Nat) : Int) = some x.cps.toList[n] := by
    unfold L2.atI L2.ixN
    rw [if_pos (by omega), if_pos (by omega)]
    simp
  rw [this]
  rfl
theorem pick_all (s : Pu) (n : Int) (h0 : 0 < n) (h1 : n < 1073741824) : ∃ (s' : Pu) (r : Int), (∀ ρ, callG [true, false] false F__law_pick [.own 0, .val (.int n)] (.p s.d :: ρ) = .ok (.int r) (.p s'.d :: ρ)) ∧ 0 ≤ r ∧ r < n := by
  obtain ⟨s', r, h, h2, h3⟩ := pick_pu s n h0 h1
  exact ⟨s', r, fun ρ => call_own (i := 0) rfl rfl h rfl, h2, h3⟩
theorem sm_one {c : Nat} (h : c < 128) : sm ⟨#[c]⟩ := fun d hd => by
  have hd : d ∈ [c] := hd
  rw [List.mem_singleton.mp hd]
  exact h
theorem mul_01 {c : Nat} (h : c < 128) (b : Bool) : ∃ y, mul4 (.str ⟨#[c]⟩) (.int (if b then 1 else 0)) = some (.str y) ∧ sm y ∧ y.length ≤ 1 := by
  have l1 : (⟨#[c]⟩ : Str).length = 1 := rfl
  cases b with
  | false =>
    have e : Txt.mul ⟨#[c]⟩ 0 = ⟨#[]⟩ := rfl
    refine ⟨⟨#[]⟩, ?_, sm0, by show 0 ≤ 1; decide⟩
    show (if (0 : Int) ≤ 0 ∧ (0 : Int) ≤ 1000 ∧ (⟨#[c]⟩ : Str).length ≤ 1000 ∧ strGb (Txt.mul ⟨#[c]⟩ 0) = true then some (D.str (Txt.mul ⟨#[c]⟩ 0)) else none) = _
    rw [e, if_pos ⟨by decide, by decide, by rw [l1]; decide, by decide +kernel⟩]
  | true =>
    have e : Txt.mul ⟨#[c]⟩ 1 = ⟨#[c]⟩ := rfl
    refine ⟨⟨#[c]⟩, ?_, sm_one h, by rw [l1]; exact Nat.le_refl _⟩
    show (if (0 : Int) ≤ 1 ∧ (1 : Int) ≤ 1000 ∧ (⟨#[c]⟩ : Str).length ≤ 1000 ∧ strGb (Txt.mul ⟨#[c]⟩ 1) = true then some (D.str (Txt.mul ⟨#[c]⟩ 1)) else none) = _
    rw [e, if_pos ⟨by decide, by decide, by rw [l1]; decide, strGb_sm (sm_one h) (by rw [l1]; decide)⟩]
theorem sign_amiss_ok (s : Pu) {T : Str} (hs : sm T) (hl : T.length ≤ 1000000) : ∃ (s' : Pu) (y : Str), F__law_sign_amiss [s.d, .str T] = .ok (.str y) [s'.d] ∧ sm y ∧ y.length ≤ 2 * T.length + 300 := by
  have ln : lenD [.str T] = some (.int (T.length : Int)) := rfl
  have lg : lenD [.str SG] = some (.int 95) := by
    show some (D.int (SG.length : Int)) = _
    rw [SG_len]
    rfl
  obtain ⟨s1, r1, e1, a1, b1⟩ := pick_all s ((T.length : Int) + 1) (by omega) (by omega)
  obtain ⟨s2, r2, e2, a2, b2⟩ := pick_all s1 5 (by decide) (by decide)
  obtain ⟨s3, r3, e3, a3, b3⟩ := pick_all s2 107 (by decide) (by decide)
  obtain ⟨s4, r4, e4, a4, b4⟩ := pick_all s3 3 (by decide) (by decide)
  obtain ⟨j, hj, hj2⟩ : ∃ j : Int, ixD (.lst [.int 0, .int 0, .int 0, .int 1, .int 2]) (.int r2) = some (.int j) ∧ (j = 0 ∨ j = 1 ∨ j = 2) := by
    have : r2 = 0 ∨ r2 = 1 ∨ r2 = 2 ∨ r2 = 3 ∨ r2 = 4 := by omega
    rcases this with rfl | rfl | rfl | rfl | rfl
    · exact ⟨0, rfl, by decide⟩
    · exact ⟨0, rfl, by decide⟩
    · exact ⟨0, rfl, by decide⟩
    · exact ⟨1, rfl, by decide⟩
    · exact ⟨2, rfl, by decide⟩
  obtain ⟨at_, hat⟩ : ∃ q : Int, ixD (.lst [.int r1, .int (T.length : Int), .int 0]) (.int j) = some (.int q) := by
    rcases hj2 with rfl | rfl | rfl
    · exact ⟨_, rfl⟩
    · exact ⟨_, rfl⟩
    · exact ⟨_, rfl⟩
  have ad0 : addD (.str SG) (.str "0123456789 \n") = some (.str SG2) := add_str (by rw [SG_len]; decide +kernel)
  obtain ⟨c, hc, ix⟩ := str_ix (x := SG2) a3 (by rw [SG2_len]; exact b3)
  have hc8 : c < 128 := of_decide_eq_true (List.all_eq_true.mp SG2_sm c hc)
  have g2 : gt2 (.int r4) (.int 0) = some (.bl (decide (r4 > 0))) := by simp
  have l2 : lt2 (.int r4) (.int 2) = some (.bl (decide (r4 < 2))) := by simp
  obtain ⟨y1, m1, sy1, ly1⟩ := mul_01 hc8 (decide (r4 > 0))
  have i1 : intD [.bl (decide (r4 > 0))] = some (.int (if decide (r4 > 0) then 1 else 0)) := rfl
  have i2 : intD [.bl (decide (r4 < 2))] = some (.int (if decide (r4 < 2) then 1 else 0)) := rfl
  obtain ⟨y0, p0, sy0, ly0⟩ := str_sl hs none (some at_)
  obtain ⟨y2, p2, sy2, ly2⟩ := str_sl hs (some (at_ + (if decide (r4 < 2) then 1 else 0))) none
  have ad1 : addD (.str y0) (.str y1) = some (.str (y0 ++ y1)) := add_str (by omega)
  have l01 : (y0 ++ y1).length = y0.length + y1.length := by
    show (y0.cps ++ y1.cps).size = _
    rw [Array.size_append]
    rfl
  have ad2 : addD (.str (y0 ++ y1)) (.str y2) = some (.str (y0 ++ y1 ++ y2)) := add_str (by omega)
  have l02 : (y0 ++ y1 ++ y2).length = (y0 ++ y1).length + y2.length := by
    show ((y0 ++ y1).cps ++ y2.cps).size = _
    rw [Array.size_append]
    rfl
  refine ⟨s4, y0 ++ y1 ++ y2, ?_, sm_append (sm_append sy0 sy1) sy2, by omega⟩
  have fe : (" !\"#$&'()*+,-./0123456789:;<=>?@ABCDEFGHIJKLMNOPQRSTUVWXYZ[\\]^_`abcdefghijklmnopqrstuvwxyz{|}~\n" : Str) = SG := rfl
  simp only [F__law_sign_amiss, m__law_sign_amiss, runF_eq, slots_p, slots_v, slots_nil]
  rw [fe]
  clear fe hc hc8 sy0 sy1 sy2 l01 l02 hs
  generalize (if decide (r4 > 0) = true then (1 : Int) else 0) = w1 at *
  generalize (if decide (r4 < 2) = true then (1 : Int) else 0) = w2 at *
  generalize decide (r4 > 0) = q1 at *
  generalize decide (r4 < 2) = q2 at *
  generalize hY : D.str (y0 ++ y1 ++ y2) = YY at *
  generalize D.str (y0 ++ y1) = Y01 at *
  generalize D.str y0 = Y0 at *
  generalize D.str y1 = Y1 at *
  generalize D.str y2 = Y2 at *
  generalize D.str ⟨#[c]⟩ = CC at *
  generalize D.str SG2 = G2 at *
  generalize D.str SG = G1 at *
  generalize (T.length : Int) = ll at *
  generalize D.str T = X at *
  simp [ln, lg, e1, e2, e3, e4, hj, hat, ad0, ix, g2, l2, i1, i2, m1, eSl, oNo, oSome, asI, p0, p2, ad1, ad2]
end NV

set_option Elab.async false
set_option linter.all false
set_option maxRecDepth 100000
set_option maxHeartbeats 8000000
namespace NV
open PySem PySem.Spec PyProof.Rows L2 PySem.NumText
def W29 : List Str := ["0", "1", "7", "24", "25", "99", "100", "99999", "100000", "00", "01", "-1", "+1", "", "any", "fresh", "06", "60", "0123456", "abcdefghi", "A", "song", "singer", "behind", "never", "most", "wheel", "pop", "  "]
def W8 : List Str := ["", "fresh 5", "wheel any", "song 0", "behind a b", " ", "wheel", "never a 0 0 24"]
theorem W_ok : ((W29 ++ W8).all fun x => decide (x.length ≤ 20) && x.cps.toList.all fun c => decide (c < 128)) = true := by decide +kernel
theorem W_mem {x : Str} (h : x ∈ W29 ++ W8) : sm x ∧ x.length ≤ 20 := by
  have := List.all_eq_true.mp W_ok x h
  rw [Bool.and_eq_true, decide_eq_true_iff, List.all_eq_true] at this
  exact ⟨fun c hc => of_decide_eq_true (this.2 c hc), this.1⟩
theorem sw_one {x : Str} (h : sm x) : SW (x.length + 1) [x] := SW.one h
theorem ln_sw (ws : List Str) : lenD [.lst (ws.map D.str)] = some (.int (ws.length : Int)) := by
  show some (D.int ((ws.map D.str).length : Int)) = _
  rw [List.length_map]
theorem word_amiss_ok (s : Pu) {T : Str} (hs : sm T) (hl : T.length ≤ 1000000) : ∃ (s' : Pu) (y : Str), F__law_word_amiss [s.d, .str T] = .ok (.str y) [s'.d] ∧ sm y ∧ y.length ≤ 4 * T.length + 300 := by
  obtain ⟨rows, sp, rn, rS, rl⟩ := sw_split (c := 10) (by decide) hs hl
  rw [← nl10] at sp
  have rlen := sw_len rS
  have rpos : 0 < rows.length := List.length_pos_iff.mpr rn
  obtain ⟨s1, at_, e1, a1, b1⟩ := pick_all s (rows.length : Int) (by omega) (by omega)
  obtain ⟨row, ix, hrow⟩ := sw_ix a1 b1
  have hsr : sm row := rS.1 row hrow
  obtain ⟨words, sp2, wn, wS, _⟩ := sw_split (c := 32) (by decide) hsr (Nat.le_trans (rl row hrow) hl)
  have rrow := rl row hrow
  rw [← sp32] at sp2
  have wlen := sw_len wS
  obtain ⟨s2, place, e2, a2, b2⟩ := pick_all s1 ((words.length : Int) + 1) (by omega) (by omega)
  obtain ⟨s3, r3, e3, a3, b3⟩ := pick_all s2 29 (by decide) (by decide)
  obtain ⟨s4, r4, e4, a4, b4⟩ := pick_all s3 2 (by decide) (by decide)
  obtain ⟨x, ix3, hx⟩ := sw_ix (ws := W29) a3 b3
  obtain ⟨sx, lx⟩ := W_mem (List.mem_append_left _ hx)
  have ln1 := ln_sw rows
  have ln2 := ln_sw words
  have c1 : catD (.lst [.str "0", .str "1", .str "7", .str "24", .str "25", .str "99", .str "100", .str "99999", .str "100000", .str "00", .str "01", .str "-1", .str "+1", .str ""]) (.lst [.str "any", .str "fresh", .str "06"]) = some (.lst ((W29.take 17).map D.str)) := cat_ok (by decide)
  have c2 : catD (.lst ((W29.take 17).map D.str)) (.lst [.str "60", .str "0123456", .str "abcdefghi", .str "A", .str "song", .str "singer", .str "behind", .str "never", .str "most", .str "wheel"]) = some (.lst ((W29.take 27).map D.str)) := cat_ok (by decide)
  have c3 : catD (.lst ((W29.take 27).map D.str)) (.lst [.str "pop", .str "  "]) = some (.lst (W29.map D.str)) := cat_ok (by decide)
  have A1 := wS.cut none (some place)
  have A2 := sw_one sx
  have A3 := wS.cut (some (place + r4)) none
  have p1 := sw_sl (ws := words) none (some place)
  have p2 := sw_sl (ws := words) (some (place + r4)) none
  have k1 := sw_cat A1 A2 (by omega)
  have k2 := sw_cat (A1.app A2) A3 (by omega)
  obtain ⟨jw, j1, sjw, ljw⟩ := sw_join (c := 32) (by decide) ((A1.app A2).app A3) (by omega)
  rw [← sp32] at j1
  have B1 := rS.cut none (some at_)
  have B2 := sw_one sjw
  have B3 := rS.cut (some (at_ + 1)) none
  have q1 := sw_sl (ws := rows) none (some at_)
  have q2 := sw_sl (ws := rows) (some (at_ + 1)) none
  have k3 := sw_cat B1 B2 (by omega)
  have k4 := sw_cat (B1.app B2) B3 (by omega)
  obtain ⟨jr, j2, sjr, ljr⟩ := sw_join (c := 10) (by decide) ((B1.app B2).app B3) (by omega)
  rw [← nl10] at j2
  have k1 : catD (.lst ((cutL words none (some place)).map D.str)) (.lst [.str x]) = _ := k1
  have k3 : catD (.lst ((cutL rows none (some at_)).map D.str)) (.lst [.str jw]) = _ := k3
  refine ⟨s4, jr, ?_, sjr, by omega⟩
  clear A1 A2 A3 B1 B2 B3 rS wS hs hsr sjw sjr rl ljw ljr rlen wlen rrow hx sx lx hrow rn wn
  simp only [F__law_word_amiss, m__law_word_amiss, runF_eq, slots_p, slots_v, slots_nil]
  generalize D.lst ((cutL rows none (some at_) ++ [jw] ++ cutL rows (some (at_ + 1)) none).map D.str) = R3 at *
  generalize D.lst ((cutL rows none (some at_) ++ [jw]).map D.str) = R2 at *
  generalize D.lst ((cutL rows none (some at_)).map D.str) = R1 at *
  generalize D.lst ((cutL rows (some (at_ + 1)) none).map D.str) = R4 at *
  generalize D.lst ((cutL words none (some place) ++ [x] ++ cutL words (some (place + r4)) none).map D.str) = V3 at *
  generalize D.lst ((cutL words none (some place) ++ [x]).map D.str) = V2 at *
  generalize D.lst ((cutL words none (some place)).map D.str) = V1 at *
  generalize D.lst ((cutL words (some (place + r4)) none).map D.str) = V4 at *
  generalize D.lst (rows.map D.str) = RR at *
  generalize D.lst (words.map D.str) = WW at *
  generalize D.lst (W29.map D.str) = L29 at *
  generalize D.lst ((W29.take 27).map D.str) = L27 at *
  generalize D.lst ((W29.take 17).map D.str) = L17 at *
  generalize (rows.length : Int) = n1 at *
  generalize (words.length : Int) = n2 at *
  generalize hTX : D.str T = TX at *
  generalize hRX : D.str row = RX at *
  subst hTX hRX
  simp [c1, c2, c3, eSplit, isStr, sp, ln1, e1, ix, sp2, ln2, e2, eSl, oNo, oSome, asI, p1, e3, ix3, k1, e4, p2, k2, q1, q2, eJoin, j1, k3, k4, j2]
end NV

set_option Elab.async false
set_option linter.all false
set_option maxRecDepth 100000
set_option maxHeartbeats 8000000
namespace NV
open PySem PySem.Spec PyProof.Rows L2 PySem.NumText
theorem sw_rev (ws : List Str) : revD (.lst (ws.map D.str)) = some (.lst (ws.reverse.map D.str)) := by
  show some (D.lst (ws.map D.str).reverse) = _
  rw [List.map_reverse]
theorem row_amiss_ok (s : Pu) {T : Str} (hs : sm T) (hl : T.length ≤ 1000000) : ∃ (s' : Pu) (y : Str), F__law_row_amiss [s.d, .str T] = .ok (.str y) [s'.d] ∧ sm y ∧ y.length ≤ 6 * T.length + 300 := by
  obtain ⟨rows, sp, rn, rS, rl⟩ := sw_split (c := 10) (by decide) hs hl
  rw [← nl10] at sp
  have rlen := sw_len rS
  have rpos : 0 < rows.length := List.length_pos_iff.mpr rn
  obtain ⟨s1, at_, e1, a1, b1⟩ := pick_all s (rows.length : Int) (by omega) (by omega)
  obtain ⟨s2, to, e2, a2, b2⟩ := pick_all s1 (rows.length : Int) (by omega) (by omega)
  obtain ⟨s3, r3, e3, a3, b3⟩ := pick_all s2 8 (by decide) (by decide)
  obtain ⟨s4, r4, e4, a4, b4⟩ := pick_all s3 6 (by decide) (by decide)
  obtain ⟨x, ix3, hx⟩ := sw_ix (ws := W8) a3 b3
  obtain ⟨sx, lx⟩ := W_mem (List.mem_append_right _ hx)
  have ix3 : ixD (.lst [.str "", .str "fresh 5", .str "wheel any", .str "song 0", .str "behind a b", .str " ", .str "wheel", .str "never a 0 0 24"]) (.int r3) = some (.str x) := ix3
  have ln1 := ln_sw rows
  have A := rS.cut none (some at_)
  have B := rS.cut (some (at_ + 1)) none
  have C := rS.cut (some at_) (some (at_ + 1))
  have E := rS.cut (some at_) none
  have O := sw_one sx
  have L := A.app B
  have F := L.cut none (some to)
  have G := L.cut (some to) none
  have pA := sw_sl (ws := rows) none (some at_)
  have pB := sw_sl (ws := rows) (some (at_ + 1)) none
  have pC := sw_sl (ws := rows) (some at_) (some (at_ + 1))
  have pE := sw_sl (ws := rows) (some at_) none
  have kL := sw_add A B (by omega)
  have k1 := sw_add A C (by omega)
  have k2 := sw_add (A.app C) E (by omega)
  have pF := sw_sl (ws := cutL rows none (some at_) ++ cutL rows (some (at_ + 1)) none) none (some to)
  have pG := sw_sl (ws := cutL rows none (some at_) ++ cutL rows (some (at_ + 1)) none) (some to) none
  have k3 := sw_add F C (by omega)
  have k4 := sw_add (F.app C) G (by omega)
  have k5 : catD (.lst ((cutL rows none (some at_)).map D.str)) (.lst [.str x]) = _ := sw_cat A O (by omega)
  have k6 := sw_cat (A.app O) E (by omega)
  have k7 : catD (.lst (rows.map D.str)) (.lst [.str x]) = _ := sw_cat rS O (by omega)
  have rv := sw_rev rows
  obtain ⟨z, hz, ws, hzw, zS⟩ : ∃ z, ixD (.lst [.lst ((cutL rows none (some at_) ++ cutL rows (some (at_ + 1)) none).map D.str), .lst (((cutL rows none (some at_) ++ cutL rows (some at_) (some (at_ + 1))) ++ cutL rows (some at_) none).map D.str),
      .lst (((cutL (cutL rows none (some at_) ++ cutL rows (some (at_ + 1)) none) none (some to) ++ cutL rows (some at_) (some (at_ + 1))) ++ cutL (cutL rows none (some at_) ++ cutL rows (some (at_ + 1)) none) (some to) none).map D.str),
      .lst (((cutL rows none (some at_) ++ [x]) ++ cutL rows (some at_) none).map D.str), .lst ((rows ++ [x]).map D.str), .lst (rows.reverse.map D.str)]) (.int r4) = some z ∧ ∃ ws, z = .lst (ws.map D.str) ∧ SW (6 * T.length + 100) ws := by
    have : r4 = 0 ∨ r4 = 1 ∨ r4 = 2 ∨ r4 = 3 ∨ r4 = 4 ∨ r4 = 5 := by omega
    rcases this with rfl | rfl | rfl | rfl | rfl | rfl
    · exact ⟨_, rfl, _, rfl, L.up (by omega)⟩
    · exact ⟨_, rfl, _, rfl, ((A.app C).app E).up (by omega)⟩
    · exact ⟨_, rfl, _, rfl, ((F.app C).app G).up (by omega)⟩
    · exact ⟨_, rfl, _, rfl, ((A.app O).app E).up (by omega)⟩
    · exact ⟨_, rfl, _, rfl, (rS.app O).up (by omega)⟩
    · exact ⟨_, rfl, _, rfl, rS.rev.up (by omega)⟩
  obtain ⟨jr, j2, sjr, ljr⟩ := sw_join (c := 10) (by decide) zS (by omega)
  rw [← nl10, ← hzw] at j2
  refine ⟨s4, jr, ?_, sjr, by omega⟩
  clear zS hzw A B C E O L F G rS hs sjr ljr rl rlen hx sx lx rn
  simp only [F__law_row_amiss, m__law_row_amiss, runF_eq, slots_p, slots_v, slots_nil]
  generalize D.lst ((cutL rows none (some at_) ++ [x] ++ cutL rows (some at_) none).map D.str) = Z4 at *
  generalize D.lst ((rows ++ [x]).map D.str) = Z5 at *
  generalize D.lst (rows.reverse.map D.str) = Z6 at *
  generalize D.lst ((cutL (cutL rows none (some at_) ++ cutL rows (some (at_ + 1)) none) none (some to) ++ cutL rows (some at_) (some (at_ + 1)) ++ cutL (cutL rows none (some at_) ++ cutL rows (some (at_ + 1)) none) (some to) none).map D.str) = Z3 at *
  generalize D.lst ((cutL (cutL rows none (some at_) ++ cutL rows (some (at_ + 1)) none) none (some to) ++ cutL rows (some at_) (some (at_ + 1))).map D.str) = Y3 at *
  generalize D.lst ((cutL (cutL rows none (some at_) ++ cutL rows (some (at_ + 1)) none) none (some to)).map D.str) = Y1 at *
  generalize D.lst ((cutL (cutL rows none (some at_) ++ cutL rows (some (at_ + 1)) none) (some to) none).map D.str) = Y2 at *
  generalize D.lst ((cutL rows none (some at_) ++ cutL rows (some at_) (some (at_ + 1)) ++ cutL rows (some at_) none).map D.str) = Z2 at *
  generalize D.lst ((cutL rows none (some at_) ++ cutL rows (some at_) (some (at_ + 1))).map D.str) = Y4 at *
  generalize D.lst ((cutL rows none (some at_) ++ [x]).map D.str) = Y5 at *
  generalize D.lst ((cutL rows none (some at_) ++ cutL rows (some (at_ + 1)) none).map D.str) = Z1 at *
  generalize D.lst ((cutL rows none (some at_)).map D.str) = U1 at *
  generalize D.lst ((cutL rows (some (at_ + 1)) none).map D.str) = U2 at *
  generalize D.lst ((cutL rows (some at_) (some (at_ + 1))).map D.str) = U3 at *
  generalize D.lst ((cutL rows (some at_) none).map D.str) = U4 at *
  generalize D.lst (rows.map D.str) = RR at *
  have ct : catD (.lst [Z1, Z2, Z3]) (.lst [Z4, Z5, Z6]) = some (.lst [Z1, Z2, Z3, Z4, Z5, Z6]) := cat_ok (by simp only [List.length_cons, List.length_nil]; omega)
  generalize (rows.length : Int) = n1 at *
  generalize hTX : D.str T = TX at *
  subst hTX
  simp [eSplit, isStr, sp, sPar, ln1, e1, e2, eSl, oNo, oSome, asI, pA, pB, kL, ix3, e3, pC, pE, k1, k2, pF, pG, k3, k4, k5, k6, k7, eRev, rv, ct, e4, hz, eJoin, j2]
theorem amiss_ok (s : Pu) {T : Str} (hs : sm T) (hl : T.length ≤ 1000000) : ∃ (s' : Pu) (y : Str), F__law_amiss [s.d, .str T] = .ok (.str y) [s'.d] ∧ sm y ∧ y.length ≤ 6 * T.length + 300 := by
  obtain ⟨s1, r, e1, a1, b1⟩ := pick_all s 4 (by decide) (by decide)
  have l2 : lt2 (.int r) (.int 2) = some (.bl (decide (r < 2))) := by simp
  by_cases h : r < 2
  · obtain ⟨s2, y, e2, sy, ly⟩ := sign_amiss_ok s1 hs hl
    have c : ∀ ρ, callG [true, false] false F__law_sign_amiss [.own 0, .val (.str T)] (.p s1.d :: ρ) = .ok (.str y) (.p s2.d :: ρ) := fun ρ => call_own (i := 0) rfl rfl e2 rfl
    refine ⟨s2, y, ?_, sy, by omega⟩
    generalize D.str T = X at *
    generalize D.str y = Y at *
    simp [F__law_amiss, m__law_amiss, e1, h, c]
  · by_cases h2 : r = 2
    · obtain ⟨s2, y, e2, sy, ly⟩ := word_amiss_ok s1 hs hl
      have c : ∀ ρ, callG [true, false] false F__law_word_amiss [.own 0, .val (.str T)] (.p s1.d :: ρ) = .ok (.str y) (.p s2.d :: ρ) := fun ρ => call_own (i := 0) rfl rfl e2 rfl
      refine ⟨s2, y, ?_, sy, by omega⟩
      generalize D.str T = X at *
      generalize D.str y = Y at *
      simp [F__law_amiss, m__law_amiss, e1, h, h2, c]
    · obtain ⟨s2, y, e2, sy, ly⟩ := row_amiss_ok s1 hs hl
      have c : ∀ ρ, callG [true, false] false F__law_row_amiss [.own 0, .val (.str T)] (.p s1.d :: ρ) = .ok (.str y) (.p s2.d :: ρ) := fun ρ => call_own (i := 0) rfl rfl e2 rfl
      refine ⟨s2, y, ?_, sy, by omega⟩
      generalize D.str T = X at *
      generalize D.str y = Y at *
      simp [F__law_amiss, m__law_amiss, e1, h, h2, c]
end NV

set_option Elab.async false
set_option linter.all false
set_option maxRecDepth 100000
set_option maxHeartbeats 8000000
namespace NV
open PySem PySem.Spec PyProof.Rows L2 PySem.NumText
/-! the law -/
def st0 : SM := (sSet 1 (eLst (lCons (eC (.str "\n")) (lCons (eC (.str " ")) (lCons (eC (.str "song 5\n")) (lCons (eC (.str "\nsong 5")) (lCons (eC (.str "song  5")) (lCons (eC (.str " song 5")) (lCons (eC (.str "song 5 ")) (lCons (eC (.str "song")) (lCons (eC (.str "song 05")) lNil)))))))))))
def st1 : SM := (sSet 1 (eOp2 catD (rVar 1) (rOf (eLst (lCons (eC (.str "song 100000")) (lCons (eC (.str "Song 5")) (lCons (eC (.str "song 1_0")) (lCons (eC (.str "song +5")) (lCons (eC (.str "song -0")) (lCons (eC (.str "most a 1_0 5")) (lCons (eC (.str "never a 0 0_1 5")) lNil)))))))))))
def st2 : SM := (sSet 1 (eOp2 catD (rVar 1) (rOf (eLst (lCons (eC (.str "fresh 5\nsong 1\nfresh 5")) (lCons (eC (.str "wheel any\nwheel any")) (lCons (eC (.str "wheel")) lNil)))))))
def st3 : SM := (sSet 1 (eOp2 catD (rVar 1) (rOf (eLst (lCons (eC (.str "wheel any fresh song wheel never most")) lNil)))))
def st4 : SM := (sSet 1 (eOp2 catD (rVar 1) (rOf (eLst (lCons (eC (.str "wheel a b c d e f g h")) (lCons (eC (.str "wheel a b c d e f g h i")) (lCons (eC (.str "behind any a")) lNil)))))))
def st5 : SM := (sSet 1 (eOp2 catD (rVar 1) (rOf (eLst (lCons (eC (.str "behind song never")) (lCons (eC (.str "never a 10 0 24")) lNil))))))
def st6 : SM := (sSet 1 (eOp2 catD (rVar 1) (rOf (eLst (lCons (eC (.str "never a 0 24 24")) (lCons (eC (.str "never a 7 0 24")) (lCons (eC (.str "never a 0123456 23 24")) (lCons (eC (.str "never fresh 0 0 24")) lNil))))))))
def st7 : SM := (sSet 1 (eOp2 catD (rVar 1) (rOf (eLst (lCons (eC (.str "most a 0 5")) (lCons (eC (.str "most a 99 0")) lNil))))))
def st8 : SM := (sSet 1 (eOp2 catD (rVar 1) (rOf (eLst (lCons (eJoin (eC (.str "\n")) (eOp2 repD (rOf (eLst (lCons (eC (.str "song 5")) lNil))) (rOf (eC (.int 12))))) (lCons (eJoin (eC (.str "\n")) (eOp2 repD (rOf (eLst (lCons (eC (.str "song 5")) lNil))) (rOf (eC (.int 13))))) lNil))))))
def st9 : SM := (sSet 1 (eOp2 catD (rVar 1) (rOf (eLst (lCons (eJoin (eC (.str "\n")) (eOp2 catD (rOf (eOp2 repD (rOf (eLst (lCons (eC (.str "song 5")) lNil))) (rOf (eC (.int 13))))) (rOf (eLst (lCons (eC (.str "x")) lNil))))) (lCons (eC (.str "any 5")) (lCons (eC (.str "x")) lNil)))))))
def tst : SM := (sIf (tNotM (tOfE (eCallB allD2 (aCons (rOf (eComp (iVal (eVar 1)) (gNm 5) tYesM (eCall [false] false F__law_right (aCons (rVar 5) aNil)) [5])) aNil)))) (sRet (eC (.bl false))) sNil)
def bI : SM := (sSeq (sSet 7 (eCall [true, false] false F__law_amiss (aCons (rVar 3) (aCons (rVar 5) aNil)))) (sIf (tOrM (tNotM (tOfE (eCall [false] false F__law_right (aCons (rVar 7) aNil)))) (tNotM (tOfE (eCall [false] false F__law_right (aCons (rOf (eCall [true, false] false F__law_amiss (aCons (rVar 3) (aCons (rVar 7) aNil)))) aNil))))) (sRet (eC (.bl false))) sNil))
def bO : SM := (sSeq (sSetO 3 (eCall [false] true F__law_purse (aCons (rOf (eCall [false, false] false F__law_cell (aCons (rVar 0) (aCons (rVar 2) aNil)))) aNil))) (sSeq (sSet 4 (eCall [true, false] false F__law_rules (aCons (rVar 3) (aCons (rOf (eOp2 ixD (rOf (eLst (lCons (eC (.int 0)) (lCons (eC (.int 1)) (lCons (eC (.int 2)) (lCons (eC (.int 3)) (lCons (eC (.int 4)) (lCons (eOp2 ixD (rOf (eLst (lCons (eC (.int 5)) (lCons (eC (.int 12)) lNil)))) (rOf (eCallB intD (aCons (rOf (eOp2 eqO (rVar 2) (rOf (eC (.int 0))))) aNil)))) (lCons (eOp2 ixD (rOf (eLst (lCons (eC (.int 4)) (lCons (eC (.int 13)) lNil)))) (rOf (eCallB intD (aCons (rOf (eOp2 eqO (rVar 2) (rOf (eC (.int 0))))) aNil)))) (lCons (eC (.int 5)) lNil)))))))))) (rOf (eCall [true, false] false F__law_pick (aCons (rVar 3) (aCons (rOf (eC (.int 8))) aNil)))))) aNil)))) (sSeq (sSet 5 (eJoin (eC (.str "\n")) (eComp (iVal (eVar 4)) (gNm 8) tYesM (eCall [false] false F__law_row (aCons (rVar 8) aNil)) [8]))) (sSeq (sIf (tNotM (tOfE (eCall [false] false F__law_right (aCons (rVar 5) aNil)))) (sRet (eC (.bl false))) sNil) (sFor (iRange1 (eC (.int 3))) (gNm 6) bI)))))
theorem law_eq : m_law = sSeq st0 (sSeq st1 (sSeq st2 (sSeq st3 (sSeq st4 (sSeq st5 (sSeq st6 (sSeq st7 (sSeq st8 (sSeq st9 (sSeq tst (sSeq (sFor (iRange1 (eCallB max2D (aCons (rOf (eC (.int 2))) (aCons (rOf (eCallB min2D (aCons (rOf (eC (.int 8))) (aCons (rOf (eCallB lenD (aCons (rVar 0) aNil))) aNil)))) aNil)))) (gNm 2) bO) (sRet (eC (.bl true)))))))))))))) := rfl
def J12 : Str := Txt.join ⟨#[10]⟩ (List.replicate 12 ("song 5" : Str))
def J13 : Str := Txt.join ⟨#[10]⟩ (List.replicate 13 ("song 5" : Str))
def J13x : Str := Txt.join ⟨#[10]⟩ (List.replicate 13 ("song 5" : Str) ++ [("x" : Str)])
def FXL : List Str := (["\n", " ", "song 5\n", "\nsong 5", "song  5", " song 5", "song 5 ", "song", "song 05"] : List Str) ++ ((["song 100000", "Song 5", "song 1_0", "song +5", "song -0", "most a 1_0 5", "never a 0 0_1 5"] : List Str) ++ ((["fresh 5\nsong 1\nfresh 5", "wheel any\nwheel any", "wheel"] : List Str) ++ ((["wheel any fresh song wheel never most"] : List Str) ++ ((["wheel a b c d e f g h", "wheel a b c d e f g h i", "behind any a"] : List Str) ++ ((["behind song never", "never a 10 0 24"] : List Str) ++ ((["never a 0 24 24", "never a 7 0 24", "never a 0123456 23 24", "never fresh 0 0 24"] : List Str) ++ ((["most a 0 5", "most a 99 0"] : List Str) ++ (([J12, J13] : List Str) ++ (([J13x, "any 5", "x"] : List Str))))))))))
theorem FX_sm : (FXL.all fun x => x.cps.toList.all fun c => decide (c < 128)) = true := by decide +kernel
theorem FX_mem {x : Str} (h : x ∈ FXL) : sm x := fun c hc => of_decide_eq_true (List.all_eq_true.mp (List.all_eq_true.mp FX_sm x h) c hc)
theorem song_sm : sm "song 5" := fun c hc => by
  have : ("song 5" : Str).cps.toList.all (fun c => decide (c < 128)) = true := by decide +kernel
  exact of_decide_eq_true (List.all_eq_true.mp this c hc)
theorem x_sm : sm "x" := fun c hc => by
  have : ("x" : Str).cps.toList.all (fun c => decide (c < 128)) = true := by decide +kernel
  exact of_decide_eq_true (List.all_eq_true.mp this c hc)
def R12 : D := .lst ((List.replicate 12 ("song 5" : Str)).map D.str)
def R13 : D := .lst ((List.replicate 13 ("song 5" : Str)).map D.str)
def R13x : D := .lst ((List.replicate 13 ("song 5" : Str) ++ [("x" : Str)]).map D.str)
theorem repG12 {xs : List D} (h : xs.length * 12 ≤ 16777216) : repD (.lst xs) (.int 12) = some (.lst (repL xs 12)) := by
  show (if _ then some (D.lst (repL xs 12)) else none) = _
  rw [if_pos ⟨by decide, by decide, by rw [sizeLine_eq]; show xs.length * 12 ≤ _; exact h⟩]
theorem repG13 {xs : List D} (h : xs.length * 13 ≤ 16777216) : repD (.lst xs) (.int 13) = some (.lst (repL xs 13)) := by
  show (if _ then some (D.lst (repL xs 13)) else none) = _
  rw [if_pos ⟨by decide, by decide, by rw [sizeLine_eq]; show xs.length * 13 ≤ _; exact h⟩]
theorem rp12 : repD (.lst [D.str "song 5"]) (.int 12) = some R12 := (repG12 (xs := [D.str "song 5"]) (by simp)).trans rfl
theorem rp13 : repD (.lst [D.str "song 5"]) (.int 13) = some R13 := (repG13 (xs := [D.str "song 5"]) (by simp)).trans rfl
theorem ct13 : catD R13 (.lst [.str "x"]) = some R13x := cat_ok (a := (List.replicate 13 ("song 5" : Str)).map D.str) (b := [.str "x"]) (by decide)
theorem jn12 : joinD (.str "\n") R12 = some (.str J12) := by
  rw [nl10]
  exact joinD_of (.inl rfl) sm10 (fun w hw => by rw [List.eq_of_mem_replicate hw]; exact song_sm) (by decide +kernel)
theorem jn13 : joinD (.str "\n") R13 = some (.str J13) := by
  rw [nl10]
  exact joinD_of (.inl rfl) sm10 (fun w hw => by rw [List.eq_of_mem_replicate hw]; exact song_sm) (by decide +kernel)
theorem jn13x : joinD (.str "\n") R13x = some (.str J13x) := by
  rw [nl10]
  exact joinD_of (.inl rfl) sm10 (fun w hw => by
    rcases List.mem_append.mp hw with hw | hw
    · rw [List.eq_of_mem_replicate hw]; exact song_sm
    · rw [List.mem_singleton.mp hw]; exact x_sm) (by decide +kernel)
def tk (n : Nat) : D := .lst ((FXL.take n).map D.str)
section
variable (S : Slot) (s1 : Slot) (ρ : Env)
theorem e0 : st0 (S :: s1 :: ρ) = .nx (S :: .v (tk 9) :: ρ) := by
  have h : (D.lst [.str "\n", .str " ", .str "song 5\n", .str "\nsong 5", .str "song  5", .str " song 5", .str "song 5 ", .str "song", .str "song 05"]) = tk 9 := rfl
  simp [st0, h]
theorem e1 : st1 (S :: .v (tk 9) :: ρ) = .nx (S :: .v (tk 16) :: ρ) := by
  have h : catD (tk 9) (.lst [.str "song 100000", .str "Song 5", .str "song 1_0", .str "song +5", .str "song -0", .str "most a 1_0 5", .str "never a 0 0_1 5"]) = some (tk 16) := cat_ok (a := (FXL.take 9).map D.str) (by decide)
  simp [st1, h]
theorem e2 : st2 (S :: .v (tk 16) :: ρ) = .nx (S :: .v (tk 19) :: ρ) := by
  have h : catD (tk 16) (.lst [.str "fresh 5\nsong 1\nfresh 5", .str "wheel any\nwheel any", .str "wheel"]) = some (tk 19) := cat_ok (a := (FXL.take 16).map D.str) (by decide)
  simp [st2, h]
theorem e3 : st3 (S :: .v (tk 19) :: ρ) = .nx (S :: .v (tk 20) :: ρ) := by
  have h : catD (tk 19) (.lst [.str "wheel any fresh song wheel never most"]) = some (tk 20) := cat_ok (a := (FXL.take 19).map D.str) (by decide)
  simp [st3, h]
theorem e4 : st4 (S :: .v (tk 20) :: ρ) = .nx (S :: .v (tk 23) :: ρ) := by
  have h : catD (tk 20) (.lst [.str "wheel a b c d e f g h", .str "wheel a b c d e f g h i", .str "behind any a"]) = some (tk 23) := cat_ok (a := (FXL.take 20).map D.str) (by decide)
  simp [st4, h]
theorem e5 : st5 (S :: .v (tk 23) :: ρ) = .nx (S :: .v (tk 25) :: ρ) := by
  have h : catD (tk 23) (.lst [.str "behind song never", .str "never a 10 0 24"]) = some (tk 25) := cat_ok (a := (FXL.take 23).map D.str) (by decide)
  simp [st5, h]
theorem e6 : st6 (S :: .v (tk 25) :: ρ) = .nx (S :: .v (tk 29) :: ρ) := by
  have h : catD (tk 25) (.lst [.str "never a 0 24 24", .str "never a 7 0 24", .str "never a 0123456 23 24", .str "never fresh 0 0 24"]) = some (tk 29) := cat_ok (a := (FXL.take 25).map D.str) (by decide)
  simp [st6, h]
theorem e7 : st7 (S :: .v (tk 29) :: ρ) = .nx (S :: .v (tk 31) :: ρ) := by
  have h : catD (tk 29) (.lst [.str "most a 0 5", .str "most a 99 0"]) = some (tk 31) := cat_ok (a := (FXL.take 29).map D.str) (by decide)
  simp [st7, h]
theorem e8 : st8 (S :: .v (tk 31) :: ρ) = .nx (S :: .v (tk 33) :: ρ) := by
  have h : catD (tk 31) (.lst [.str J12, .str J13]) = some (tk 33) := cat_ok (a := (FXL.take 31).map D.str) (by decide)
  simp [st8, rp12, rp13, eJoin, isStr, jn12, jn13, h]
theorem e9 : st9 (S :: .v (tk 33) :: ρ) = .nx (S :: .v (tk 36) :: ρ) := by
  have h : catD (tk 33) (.lst [.str J13x, .str "any 5", .str "x"]) = some (tk 36) := cat_ok (a := (FXL.take 33).map D.str) (by decide)
  simp [st9, rp13, ct13, eJoin, isStr, jn13x, h]
end
theorem FX_len : FXL.length ≤ 36 := by decide
theorem seqN {a b : SM} {ρ ρ1 : Env} (h : a ρ = .nx ρ1) : sSeq a b ρ = b ρ1 := by
  show (a ρ).seq b = b ρ1
  rw [h]
  rfl
theorem all_true (L : List D) : allD2 [.lst (L.map fun _ => D.bl true)] = some (.bl true) := by
  rw [all_map L fun _ => true]
  simp
theorem tst_gen (S : Slot) {L : List Str} (hL : ∀ x ∈ L, sm x) : tst [S, .v (.lst (L.map D.str)), .no, .no, .no, .no, .no, .no, .no] = .nx [S, .v (.lst (L.map D.str)), .no, .no, .no, .no, .no, .no, .no] := by
  obtain ⟨y, e⟩ := comp_D (mt := tYesM) (me := eCall [false] false F__law_right (aCons (rVar 5) aNil)) (i := 5) (fun x => [S, .v (.lst (L.map D.str)), .no, .no, .no, x, .no, .no, .no]) (fun _ _ => rfl) (L.map D.str) (fun _ => .bl true) (fun d _ => by simp) (fun d hd => by
    obtain ⟨x, hx, rfl⟩ := List.mem_map.mp hd
    have c := right_call (hL x hx)
    simp [c]) .no
  have it : itemsD (.lst (L.map D.str)) = some (L.map D.str) := rfl
  have al := all_true (L.map D.str)
  generalize (L.map D.str).map (fun _ => D.bl true) = AL at *
  generalize hTK : D.lst (L.map D.str) = TK at *
  generalize L.map D.str = FL at *
  simp [tst, it, e, al, backE, wipeE, keepV]
theorem tk_36 : tk 36 = .lst (FXL.map D.str) := by
  unfold tk
  rw [List.take_of_length_le FX_len]
theorem tst_ok (ns : List Int) : ∃ t5, tst [.v (.scr ns), .v (tk 36), .no, .no, .no, .no, .no, .no, .no] = .nx [.v (.scr ns), .v (tk 36), .no, .no, .no, t5, .no, .no, .no] := by
  refine ⟨.no, ?_⟩
  rw [tk_36]
  exact tst_gen (.v (.scr ns)) fun x hx => FX_mem hx
theorem bI_ok (S s1 : Slot) (k z : D) (p : Pu) {T : Str} (hs : sm T) (hl : T.length ≤ 20000) (t : D) (s7 s8 : Slot) : ∃ (p' : Pu) (t7 : Slot), bI [S, s1, .v k, .o p.d, .v z, .v (.str T), .v t, s7, s8] = .nx [S, s1, .v k, .o p'.d, .v z, .v (.str T), .v t, t7, s8] := by
  obtain ⟨p1, y1, e1, h1, l1⟩ := amiss_ok p hs (by omega)
  obtain ⟨p2, y2, e2, h2, l2⟩ := amiss_ok p1 h1 (by omega)
  have c1 : callG [true, false] false F__law_amiss [.own 3, .val (.str T)] [S, s1, .v k, .o p.d, .v z, .v (.str T), .v t, s7, s8] = .ok (.str y1) [S, s1, .v k, .o p1.d, .v z, .v (.str T), .v t, s7, s8] := call_own (i := 3) rfl rfl e1 rfl
  have c2 : callG [true, false] false F__law_amiss [.own 3, .val (.str y1)] [S, s1, .v k, .o p1.d, .v z, .v (.str T), .v t, .v (.str y1), s8] = .ok (.str y2) [S, s1, .v k, .o p2.d, .v z, .v (.str T), .v t, .v (.str y1), s8] := call_own (i := 3) rfl rfl e2 rfl
  have r1 := right_call h1
  have r2 := right_call h2
  refine ⟨p2, .v (.str y1), ?_⟩
  clear e1 e2
  generalize D.str T = X at *
  generalize D.str y1 = Y1 at *
  generalize D.str y2 = Y2 at *
  simp [bI, c1, r1, c2, r2]
theorem bO_ok (ns : List Int) (k : Int) (h0 : 0 ≤ k) (h1 : k < 1000) (s1 s3 s4 s5 s6 s7 : Slot) : ∃ t3 t4 t5 t6 t7, bO [.v (.scr ns), s1, .v (.int k), s3, s4, s5, s6, s7, .no] = .nx [.v (.scr ns), s1, .v (.int k), t3, t4, t5, t6, t7, .no] := by
  obtain ⟨v, e1⟩ := cell_ok ns k h0 h1
  obtain ⟨p0, e2⟩ := purse_ok v
  have c1 := fun ρ => call_val (fl := [false, false]) (F := F__law_cell) (rs := [.val (.scr ns), .val (.int k)]) (ρ := ρ) rfl rfl e1 (.inl rfl)
  have c2 := fun ρ => call_valF (fl := [false]) (F := F__law_purse) (rs := [.val (.int v)]) (ρ := ρ) rfl rfl e2 (.inl rfl)
  obtain ⟨p1, r, e3, r0, r1⟩ := pick_pu p0 8 (by decide) (by decide)
  have c3 : callG [true, false] false F__law_pick [.own 3, .val (.int 8)] [.v (.scr ns), s1, .v (.int k), .o p0.d, s4, s5, s6, s7, .no] = .ok (.int r) [.v (.scr ns), s1, .v (.int k), .o p1.d, s4, s5, s6, s7, .no] := call_own (i := 3) rfl rfl e3 rfl
  obtain ⟨b, hb⟩ : ∃ b, eqO (.int k) (.int 0) = some (.bl b) := ⟨_, rfl⟩
  obtain ⟨q, hq⟩ : ∃ q : Int, intD [.bl b] = some (.int q) ∧ (q = 0 ∨ q = 1) := by cases b <;> exact ⟨_, rfl, by decide⟩
  obtain ⟨n5, x5, h5⟩ : ∃ n : Nat, ixD (.lst [.int 5, .int 12]) (.int q) = some (.int (n : Int)) ∧ n ≤ 13 := by
    rcases hq.2 with rfl | rfl
    · exact ⟨5, rfl, by decide⟩
    · exact ⟨12, rfl, by decide⟩
  obtain ⟨n4, x4, h4⟩ : ∃ n : Nat, ixD (.lst [.int 4, .int 13]) (.int q) = some (.int (n : Int)) ∧ n ≤ 13 := by
    rcases hq.2 with rfl | rfl
    · exact ⟨4, rfl, by decide⟩
    · exact ⟨13, rfl, by decide⟩
  obtain ⟨n, ez, hn⟩ : ∃ n : Nat, ixD (.lst [.int 0, .int 1, .int 2, .int 3, .int 4, .int (n5 : Int), .int (n4 : Int), .int 5]) (.int r) = some (.int (n : Int)) ∧ n ≤ 13 := by
    have : r = 0 ∨ r = 1 ∨ r = 2 ∨ r = 3 ∨ r = 4 ∨ r = 5 ∨ r = 6 ∨ r = 7 := by omega
    rcases this with rfl | rfl | rfl | rfl | rfl | rfl | rfl | rfl
    · exact ⟨0, rfl, by decide⟩
    · exact ⟨1, rfl, by decide⟩
    · exact ⟨2, rfl, by decide⟩
    · exact ⟨3, rfl, by decide⟩
    · exact ⟨4, rfl, by decide⟩
    · exact ⟨n5, rfl, h5⟩
    · exact ⟨n4, rfl, h4⟩
    · exact ⟨5, rfl, by decide⟩
  obtain ⟨p2, z, e4, L, hz, hL, hr⟩ := rules_ok p1 n hn
  have c4 : callG [true, false] false F__law_rules [.own 3, .val (.int (n : Int))] [.v (.scr ns), s1, .v (.int k), .o p1.d, s4, s5, s6, s7, .no] = .ok z [.v (.scr ns), s1, .v (.int k), .o p2.d, s4, s5, s6, s7, .no] := call_own (i := 3) rfl rfl e4 rfl
  have rf : ∀ x ∈ L, RF x := fun x hx => rf_of (hr x hx)
  obtain ⟨y, cp⟩ := comp_D (mt := tYesM) (me := eCall [false] false F__law_row (aCons (rVar 8) aNil)) (i := 8) (fun x => [.v (.scr ns), s1, .v (.int k), .o p2.d, .v z, s5, s6, s7, x]) (fun _ _ => rfl) L (fun r => .str (rowS r)) (fun d _ => by simp) (fun d hd => by
    have c := law_row_call (rf d hd)
    simp [c]) .no
  have mm : L.map (fun r => D.str (rowS r)) = (L.map rowS).map D.str := by rw [List.map_map]; rfl
  rw [mm] at cp
  have rsum := rows_sum rf
  have jo : joinD (.str "\n") (.lst ((L.map rowS).map D.str)) = some (.str (Txt.join ⟨#[10]⟩ (L.map rowS))) := by
    rw [nl10]
    refine joinD_of (.inl rfl) sm10 (fun w hm => ?_) (by rw [one_len, List.length_map]; omega)
    obtain ⟨r, hr, rfl⟩ := List.mem_map.mp hm
    exact (row_ok (rf r hr)).1
  have hs : sm (Txt.join ⟨#[10]⟩ (L.map rowS)) := sm_joinT (by decide) fun w hm => by
    obtain ⟨r, hr, rfl⟩ := List.mem_map.mp hm
    exact (row_ok (rf r hr)).1
  have jl := join_len ⟨#[10]⟩ (L.map rowS)
  rw [one_len, List.length_map] at jl
  have hl : (Txt.join ⟨#[10]⟩ (L.map rowS)).length ≤ 20000 := by omega
  have it : itemsD z = some L := by rw [hz]; rfl
  have rt := right_call hs
  have r3 : rng1 (.int 3) = some [.int 0, .int 1, .int 2] := rfl
  generalize Txt.join ⟨#[10]⟩ (L.map rowS) = T at *
  obtain ⟨ρ', lp, p', t6, t7, hρ⟩ := for_inv (g := gNm 6) (body := bI) (fun ρ => ∃ (p : Pu) (s s' : Slot), ρ = [.v (.scr ns), s1, .v (.int k), .o p.d, .v z, .v (.str T), s, s', .no]) [.int 0, .int 1, .int 2]
    (fun d _ ρ ⟨p, s, s', hr⟩ => by
      subst hr
      obtain ⟨p', t7, e⟩ := bI_ok (.v (.scr ns)) s1 (.int k) z p hs hl d s' .no
      exact ⟨_, _, rfl, .inl e, _, _, _, rfl⟩) [.v (.scr ns), s1, .v (.int k), .o p2.d, .v z, .v (.str T), s6, s7, .no] ⟨p2, s6, s7, rfl⟩
  subst hρ
  refine ⟨.o p'.d, .v z, .v (.str T), t6, t7, ?_⟩
  clear mm rsum jl hs hl rf hr hL hz e4 e3 e2 e1
  generalize hRL : D.lst ((L.map rowS).map D.str) = RL at *
  generalize (L.map rowS).map D.str = RM at *
  subst hRL
  generalize D.str T = X at *
  simp [bO, c1, c2, c3, hb, hq.1, x5, x4, ez, c4, it, cp, eJoin, isStr, jo, rt, r3, lp, backE, wipeE, keepV]
theorem rng_small {n : Int} (h0 : 0 ≤ n) (h1 : n ≤ 1000) : rng1 (.int n) = some (rngD 0 n.toNat) := by
  show (if n ≤ 16777216 ∧ -(2 ^ 62 : Int) ≤ n then some (rngD 0 n.toNat) else none) = _
  rw [if_pos ⟨by omega, by omega⟩]
theorem law_ok (ns : List Int) : F_law [.scr ns] = .ok (.bl true) [] := by
  obtain ⟨u5, et⟩ := tst_ok ns
  obtain ⟨n, hn, e3', e4'⟩ : ∃ n : Int, n ≤ 8 ∧ max2D [.int 2, .int (if (ns.length : Int) < 8 then (ns.length : Int) else 8)] = some (.int n) ∧ rng1 (.int n) = some (rngD 0 n.toNat) := by
    have b1 : ∀ j : Int, 0 ≤ j → j ≤ 8 → ∃ n : Int, n ≤ 8 ∧ max2D [.int 2, .int j] = some (.int n) ∧ rng1 (.int n) = some (rngD 0 n.toNat) := fun j j0 j1 => by
      by_cases h : 2 < j
      · exact ⟨j, j1, by simp [max2D, h], rng_small j0 (by omega)⟩
      · exact ⟨2, by omega, by simp [max2D, h], rng_small (by omega) (by omega)⟩
    exact b1 _ (by split <;> omega) (by split <;> omega)
  obtain ⟨ρ', e, t2, t3, t4, t5, t6, t7, he⟩ := for_inv (g := gNm 2) (body := bO) (fun ρ => ∃ s2 s3 s4 s5 s6 s7 : Slot, ρ = [.v (.scr ns), .v (tk 36), s2, s3, s4, s5, s6, s7, .no]) (rngD 0 n.toNat)
    (fun d hd ρ ⟨s2, s3, s4, s5, s6, s7, hr⟩ => by
      unfold rngD at hd
      obtain ⟨i, hi, rfl⟩ := List.mem_map.mp hd
      have := List.mem_range.mp hi
      subst hr
      obtain ⟨t3, t4, t5, t6, t7, ee⟩ := bO_ok ns (0 + (i : Int)) (by omega) (by omega) (.v (tk 36)) s3 s4 s5 s6 s7
      exact ⟨_, _, rfl, .inl ee, _, _, _, _, _, _, rfl⟩) [.v (.scr ns), .v (tk 36), .no, .no, .no, u5, .no, .no, .no] ⟨_, _, _, _, _, _, rfl⟩
  subst he
  have mn : min2D [.int 8, .int (ns.length : Int)] = some (.int (if (ns.length : Int) < 8 then (ns.length : Int) else 8)) := rfl
  have ln : lenD [.scr ns] = some (.int (ns.length : Int)) := rfl
  have start : slotsOf [false] [.scr ns] ++ List.replicate (9 - [D.scr ns].length) .no = [.v (.scr ns), .no, .no, .no, .no, .no, .no, .no, .no] := rfl
  have f := e0 (.v (.scr ns)) .no [.no, .no, .no, .no, .no, .no, .no]
  have g1 := e1 (.v (.scr ns)) [.no, .no, .no, .no, .no, .no, .no]
  have g2 := e2 (.v (.scr ns)) [.no, .no, .no, .no, .no, .no, .no]
  have g3 := e3 (.v (.scr ns)) [.no, .no, .no, .no, .no, .no, .no]
  have g4 := e4 (.v (.scr ns)) [.no, .no, .no, .no, .no, .no, .no]
  have g5 := e5 (.v (.scr ns)) [.no, .no, .no, .no, .no, .no, .no]
  have g6 := e6 (.v (.scr ns)) [.no, .no, .no, .no, .no, .no, .no]
  have g7 := e7 (.v (.scr ns)) [.no, .no, .no, .no, .no, .no, .no]
  have g8 := e8 (.v (.scr ns)) [.no, .no, .no, .no, .no, .no, .no]
  have g9 := e9 (.v (.scr ns)) [.no, .no, .no, .no, .no, .no, .no]
  have run : m_law [.v (.scr ns), .no, .no, .no, .no, .no, .no, .no, .no] = .rt (.bl true) [.v (.scr ns), .v (tk 36), t2, t3, t4, t5, t6, t7, .no] := by
    rw [law_eq, seqN f, seqN g1, seqN g2, seqN g3, seqN g4, seqN g5, seqN g6, seqN g7, seqN g8, seqN g9, seqN et]
    clear f g1 g2 g3 g4 g5 g6 g7 g8 g9 et
    generalize tk 36 = TK at *
    simp [ln, mn, e3', e4', e]
  show (match m_law [.v (.scr ns), .no, .no, .no, .no, .no, .no, .no, .no] with
    | .nx ρ => fin [false] (.ok .non) ρ
    | .rt d ρ => fin [false] (.ok d) ρ
    | .rtF d ρ => fin [false] (.okF d) ρ
    | .exc x ρ => fin [false] (.exc x) ρ
    | _ => .bad) = _
  rw [run]
  rfl
theorem law_all (ns : List Int) (_ : ns.length ≤ 63) (_ : ∀ z ∈ ns, Builtin.Int.intBits z ≤ 1048576) : F_law [.scr ns] = .ok (.bl true) [] := law_ok ns
end NV

set_option Elab.async false
set_option linter.all false
set_option maxRecDepth 100000
set_option maxHeartbeats 0
namespace NV
open PySem PySem.Spec PyProof.Rows L2
theorem facts {P : Program} {w : World} {K : PySem.W.Frag} {h : Heap} {mg : Str → Option Value} {f : Addr} (X : K.In h) (G : h.Ns mainGlobals mg) (hfa : mg ("law" : Str) = some (.ref f)) (c : saysN faHk xsL fnL K) :
    ∃ fd : FuncData, (∀ (s : Shared) (v : Value), BindsTo s fd ⟨[v], []⟩ [("_law_script", v)]) ∧ ∀ base : Heap, K.In base → base.Ns mainGlobals mg → FnOk P w K mg base (L2.CX P w) 9 f fd ["_law_script"] (spF K mg [false] F_law) := by
  have n_isinstance := He.free_ok X G (c.d.fact 38 (f := .free "isinstance") rfl)
  have n_bool := He.free_ok X G (c.d.fact 39 (f := .free "bool") rfl)
  have n_int := He.free_ok X G (c.d.fact 40 (f := .free "int") rfl)
  have n_all := He.free_ok X G (c.d.fact 41 (f := .free "all") rfl)
  have n_len := He.free_ok X G (c.d.fact 42 (f := .free "len") rfl)
  have n_str := He.free_ok X G (c.d.fact 43 (f := .free "str") rfl)
  have n_tuple := He.free_ok X G (c.d.fact 44 (f := .free "tuple") rfl)
  have n_range := He.free_ok X G (c.d.fact 45 (f := .free "range") rfl)
  have n_sorted := He.free_ok X G (c.d.fact 46 (f := .free "sorted") rfl)
  have n_set := He.free_ok X G (c.d.fact 47 (f := .free "set") rfl)
  have n_enumerate := He.free_ok X G (c.d.fact 48 (f := .free "enumerate") rfl)
  have n_min := He.free_ok X G (c.d.fact 49 (f := .free "min") rfl)
  have n_max := He.free_ok X G (c.d.fact 50 (f := .free "max") rfl)
  have v_LETTERS : Gv K mg "LETTERS" G_LETTERS := gv_str X G (c.d.fact 51 (f := .str "LETTERS" "abcdefghijklmnopqrstuvwxyz") rfl) (by decide +kernel)
  have v_MOST_LETTERS : Gv K mg "MOST_LETTERS" G_MOST_LETTERS := gv_int X G (c.d.fact 52 (f := .int "MOST_LETTERS" 8) rfl)
  have v_FIGURES : Gv K mg "FIGURES" G_FIGURES := gv_str X G (c.d.fact 53 (f := .str "FIGURES" "0123456789") rfl) (by decide +kernel)
  have v_MOST_FIGURES : Gv K mg "MOST_FIGURES" G_MOST_FIGURES := gv_int X G (c.d.fact 54 (f := .int "MOST_FIGURES" 5) rfl)
  have v_WIDE : Gv K mg "WIDE" G_WIDE := gv_tupS X G (c.d.fact 55 (f := .glo "WIDE") rfl) (c.x 0 (c := tupS "WIDE" ["any", "fresh"]) rfl) (by decide +kernel)
  have v_MOST_WORDS : Gv K mg "MOST_WORDS" G_MOST_WORDS := gv_int X G (c.d.fact 56 (f := .int "MOST_WORDS" 8) rfl)
  have v_MOST_SPAN : Gv K mg "MOST_SPAN" G_MOST_SPAN := gv_int X G (c.d.fact 57 (f := .int "MOST_SPAN" 99999) rfl)
  have v_MOST_MANY : Gv K mg "MOST_MANY" G_MOST_MANY := gv_int X G (c.d.fact 58 (f := .int "MOST_MANY" 99) rfl)
  have v_MOST_RULES : Gv K mg "MOST_RULES" G_MOST_RULES := gv_int X G (c.d.fact 59 (f := .int "MOST_RULES" 12) rfl)
  have v_ONCE : Gv K mg "ONCE" G_ONCE := gv_tupS X G (c.d.fact 60 (f := .glo "ONCE") rfl) (c.x 1 (c := tupS "ONCE" ["fresh", "wheel"]) rfl) (by decide +kernel)
  have xf : ClsF K mg CSnames TSnames := clsf_ok X G (c.x 2 (c := clsfB CSnames TSnames) rfl)
  obtain ⟨fd_0, D_0⟩ := c.d.def_ 0 (d := d_is_whole) rfl
  have g_0 := He.glo_ok X G (c.d.fact 0 (f := .glo "is_whole") rfl)
  obtain ⟨fd_1, D_1⟩ := c.d.def_ 1 (d := d_is_name) rfl
  have g_1 := He.glo_ok X G (c.d.fact 1 (f := .glo "is_name") rfl)
  obtain ⟨fd_2, D_2⟩ := c.d.def_ 2 (d := d_shown_rule) rfl
  have g_2 := He.glo_ok X G (c.d.fact 2 (f := .glo "shown_rule") rfl)
  obtain ⟨fd_3, D_3⟩ := c.d.def_ 3 (d := d_number_in) rfl
  have g_3 := He.glo_ok X G (c.d.fact 3 (f := .glo "number_in") rfl)
  obtain ⟨fd_4, D_4⟩ := c.d.def_ 4 (d := d_days_in) rfl
  have g_4 := He.glo_ok X G (c.d.fact 4 (f := .glo "days_in") rfl)
  obtain ⟨fd_5, D_5⟩ := c.d.def_ 5 (d := d__law_cell) rfl
  have g_5 := He.glo_ok X G (c.d.fact 5 (f := .glo "_law_cell") rfl)
  obtain ⟨fd_6, D_6⟩ := c.d.def_ 6 (d := d__law_purse) rfl
  have g_6 := He.glo_ok X G (c.d.fact 6 (f := .glo "_law_purse") rfl)
  obtain ⟨fd_7, D_7⟩ := c.d.def_ 7 (d := d__law_pick) rfl
  have g_7 := He.glo_ok X G (c.d.fact 7 (f := .glo "_law_pick") rfl)
  obtain ⟨fd_8, D_8⟩ := c.d.def_ 8 (d := d__law_row) rfl
  have g_8 := He.glo_ok X G (c.d.fact 8 (f := .glo "_law_row") rfl)
  obtain ⟨fd_9, D_9⟩ := c.d.def_ 9 (d := d__law_figures) rfl
  have g_9 := He.glo_ok X G (c.d.fact 9 (f := .glo "_law_figures") rfl)
  obtain ⟨fd_10, D_10⟩ := c.d.def_ 10 (d := d__law_kind_in) rfl
  have g_10 := He.glo_ok X G (c.d.fact 10 (f := .glo "_law_kind_in") rfl)
  obtain ⟨fd_11, D_11⟩ := c.d.def_ 11 (d := d_is_kind) rfl
  have g_11 := He.glo_ok X G (c.d.fact 11 (f := .glo "is_kind") rfl)
  obtain ⟨fd_12, D_12⟩ := c.d.def_ 12 (d := d_is_between) rfl
  have g_12 := He.glo_ok X G (c.d.fact 12 (f := .glo "is_between") rfl)
  obtain ⟨fd_13, D_13⟩ := c.d.def_ 13 (d := d_rule_in) rfl
  have g_13 := He.glo_ok X G (c.d.fact 13 (f := .glo "rule_in") rfl)
  obtain ⟨fd_14, D_14⟩ := c.d.def_ 14 (d := d__law_any_name) rfl
  have g_14 := He.glo_ok X G (c.d.fact 14 (f := .glo "_law_any_name") rfl)
  obtain ⟨fd_15, D_15⟩ := c.d.def_ 15 (d := d__law_number) rfl
  have g_15 := He.glo_ok X G (c.d.fact 15 (f := .glo "_law_number") rfl)
  obtain ⟨fd_16, D_16⟩ := c.d.def_ 16 (d := d__law_days_in) rfl
  have g_16 := He.glo_ok X G (c.d.fact 16 (f := .glo "_law_days_in") rfl)
  obtain ⟨fd_17, D_17⟩ := c.d.def_ 17 (d := d__law_words_in) rfl
  have g_17 := He.glo_ok X G (c.d.fact 17 (f := .glo "_law_words_in") rfl)
  obtain ⟨fd_18, D_18⟩ := c.d.def_ 18 (d := d__law_sign_amiss) rfl
  have g_18 := He.glo_ok X G (c.d.fact 18 (f := .glo "_law_sign_amiss") rfl)
  obtain ⟨fd_19, D_19⟩ := c.d.def_ 19 (d := d__law_word_amiss) rfl
  have g_19 := He.glo_ok X G (c.d.fact 19 (f := .glo "_law_word_amiss") rfl)
  obtain ⟨fd_20, D_20⟩ := c.d.def_ 20 (d := d__law_row_amiss) rfl
  have g_20 := He.glo_ok X G (c.d.fact 20 (f := .glo "_law_row_amiss") rfl)
  obtain ⟨fd_21, D_21⟩ := c.d.def_ 21 (d := d_are_words) rfl
  have g_21 := He.glo_ok X G (c.d.fact 21 (f := .glo "are_words") rfl)
  obtain ⟨fd_22, D_22⟩ := c.d.def_ 22 (d := d_are_days) rfl
  have g_22 := He.glo_ok X G (c.d.fact 22 (f := .glo "are_days") rfl)
  obtain ⟨fd_23, D_23⟩ := c.d.def_ 23 (d := d_are_hours) rfl
  have g_23 := He.glo_ok X G (c.d.fact 23 (f := .glo "are_hours") rfl)
  obtain ⟨fd_24, D_24⟩ := c.d.def_ 24 (d := d__law_kind) rfl
  have g_24 := He.glo_ok X G (c.d.fact 24 (f := .glo "_law_kind") rfl)
  obtain ⟨fd_25, D_25⟩ := c.d.def_ 25 (d := d__law_parts_in) rfl
  have g_25 := He.glo_ok X G (c.d.fact 25 (f := .glo "_law_parts_in") rfl)
  obtain ⟨fd_26, D_26⟩ := c.d.def_ 26 (d := d__law_amiss) rfl
  have g_26 := He.glo_ok X G (c.d.fact 26 (f := .glo "_law_amiss") rfl)
  obtain ⟨fd_27, D_27⟩ := c.d.def_ 27 (d := d_is_rule) rfl
  have g_27 := He.glo_ok X G (c.d.fact 27 (f := .glo "is_rule") rfl)
  obtain ⟨fd_28, D_28⟩ := c.d.def_ 28 (d := d__law_rule) rfl
  have g_28 := He.glo_ok X G (c.d.fact 28 (f := .glo "_law_rule") rfl)
  obtain ⟨fd_29, D_29⟩ := c.d.def_ 29 (d := d__law_due) rfl
  have g_29 := He.glo_ok X G (c.d.fact 29 (f := .glo "_law_due") rfl)
  obtain ⟨fd_30, D_30⟩ := c.d.def_ 30 (d := d_is_rules) rfl
  have g_30 := He.glo_ok X G (c.d.fact 30 (f := .glo "is_rules") rfl)
  obtain ⟨fd_31, D_31⟩ := c.d.def_ 31 (d := d__law_rules) rfl
  have g_31 := He.glo_ok X G (c.d.fact 31 (f := .glo "_law_rules") rfl)
  obtain ⟨fd_32, D_32⟩ := c.d.def_ 32 (d := d_check_rules) rfl
  have g_32 := He.glo_ok X G (c.d.fact 32 (f := .glo "check_rules") rfl)
  obtain ⟨fd_33, D_33⟩ := c.d.def_ 33 (d := d_read_rules) rfl
  have g_33 := He.glo_ok X G (c.d.fact 33 (f := .glo "read_rules") rfl)
  obtain ⟨fd_34, D_34⟩ := c.d.def_ 34 (d := d_show_rules) rfl
  have g_34 := He.glo_ok X G (c.d.fact 34 (f := .glo "show_rules") rfl)
  obtain ⟨fd_35, D_35⟩ := c.d.def_ 35 (d := d__law_told) rfl
  have g_35 := He.glo_ok X G (c.d.fact 35 (f := .glo "_law_told") rfl)
  obtain ⟨fd_36, D_36⟩ := c.d.def_ 36 (d := d__law_right) rfl
  have g_36 := He.glo_ok X G (c.d.fact 36 (f := .glo "_law_right") rfl)
  obtain ⟨fd_37, D_37⟩ := c.d.def_ 37 (d := d_law) rfl
  have g_37 := He.glo_ok X G (c.d.fact 37 (f := .glo "law") rfl)
  obtain ⟨fd_nt, D_nt⟩ := c.d.def_ 38 (d := d_nt) rfl
  have ntc : ntB K = true := c.x 3 (c := ntB) rfl
  have nt := fun base : Heap => ntF_of (P := P) (w := w) (base := base) X G ntc (ok_nt D_nt (ntC_of X G ntc)) (D_nt.bindsN fun _ _ _ _ _ _ us hl => match us, hl with | [_, _], _ => rfl)
  have h_is_whole := fun base : Heap => has_is_whole (P := P) (w := w) (base := base) D_0 g_0 n_isinstance n_bool n_int
  have h_is_name := fun base : Heap => has_is_name (P := P) (w := w) (base := base) D_1 g_1 v_LETTERS v_MOST_LETTERS n_all n_len n_isinstance n_str
  have h_shown_rule := fun base : Heap => has_shown_rule (P := P) (w := w) (base := base) D_2 g_2 n_isinstance n_tuple n_int n_str
  have h_number_in := fun base : Heap => has_number_in (P := P) (w := w) (base := base) D_3 g_3 v_FIGURES v_MOST_FIGURES n_all n_len n_int
  have h_days_in := fun base : Heap => has_days_in (P := P) (w := w) (base := base) D_4 g_4 v_FIGURES n_all n_int n_tuple
  have h__law_cell := fun base : Heap => has__law_cell (P := P) (w := w) (base := base) D_5 g_5 n_len
  have h__law_purse := fun base : Heap => has__law_purse (P := P) (w := w) (base := base) D_6 g_6 n_int
  have h__law_pick := fun base : Heap => has__law_pick (P := P) (w := w) (base := base) D_7 g_7 
  have h__law_row := fun base : Heap => has__law_row (P := P) (w := w) (base := base) D_8 g_8 n_str
  have h__law_figures := fun base : Heap => has__law_figures (P := P) (w := w) (base := base) D_9 g_9 n_int n_str n_all n_len
  have h__law_kind_in := fun base : Heap => has__law_kind_in (P := P) (w := w) (base := base) D_10 g_10 n_all n_len n_int
  have h_is_kind := fun base : Heap => has_is_kind (P := P) (w := w) (base := base) D_11 g_11 (h_is_name base) v_WIDE
  have h_is_between := fun base : Heap => has_is_between (P := P) (w := w) (base := base) D_12 g_12 (h_is_whole base)
  have h_rule_in := fun base : Heap => has_rule_in (P := P) (w := w) (base := base) D_13 g_13 (h_days_in base) (h_number_in base) n_tuple n_len
  have h__law_any_name := fun base : Heap => has__law_any_name (P := P) (w := w) (base := base) D_14 g_14 (h__law_pick base) n_range
  have h__law_number := fun base : Heap => has__law_number (P := P) (w := w) (base := base) D_15 g_15 (h__law_pick base)
  have h__law_days_in := fun base : Heap => has__law_days_in (P := P) (w := w) (base := base) D_16 g_16 (h__law_figures base) n_sorted n_set n_tuple
  have h__law_words_in := fun base : Heap => has__law_words_in (P := P) (w := w) (base := base) D_17 g_17 (h__law_kind_in base) n_tuple n_len n_int
  have h__law_sign_amiss := fun base : Heap => has__law_sign_amiss (P := P) (w := w) (base := base) D_18 g_18 (h__law_pick base) n_len n_int
  have h__law_word_amiss := fun base : Heap => has__law_word_amiss (P := P) (w := w) (base := base) D_19 g_19 (h__law_pick base) n_len
  have h__law_row_amiss := fun base : Heap => has__law_row_amiss (P := P) (w := w) (base := base) D_20 g_20 (h__law_pick base) n_len
  have h_are_words := fun base : Heap => has_are_words (P := P) (w := w) (base := base) D_21 g_21 (h_is_kind base) v_MOST_WORDS v_WIDE n_len n_isinstance n_tuple n_str n_all
  have h_are_days := fun base : Heap => has_are_days (P := P) (w := w) (base := base) D_22 g_22 (h_is_between base) n_all n_isinstance n_tuple n_range n_len
  have h_are_hours := fun base : Heap => has_are_hours (P := P) (w := w) (base := base) D_23 g_23 (h_is_between base)
  have h__law_kind := fun base : Heap => has__law_kind (P := P) (w := w) (base := base) D_24 g_24 (h__law_any_name base) n_int
  have h__law_parts_in := fun base : Heap => has__law_parts_in (P := P) (w := w) (base := base) D_25 g_25 (h__law_figures base) (h__law_kind_in base) (h__law_words_in base) (h__law_days_in base) n_len n_int
  have h__law_amiss := fun base : Heap => has__law_amiss (P := P) (w := w) (base := base) D_26 g_26 (h__law_pick base) (h__law_sign_amiss base) (h__law_word_amiss base) (h__law_row_amiss base)
  have h_is_rule := fun base : Heap => has_is_rule (P := P) (w := w) (base := base) D_27 g_27 (h_is_between base) (h_is_kind base) (h_are_hours base) (h_are_days base) (h_are_words base) v_MOST_SPAN v_MOST_MANY n_isinstance n_str n_len n_tuple
  have h__law_rule := fun base : Heap => has__law_rule (P := P) (w := w) (base := base) D_28 g_28 (h__law_number base) (h__law_kind base) (h__law_pick base) (h__law_any_name base) n_range n_tuple n_int
  have h__law_due := fun base : Heap => has__law_due (P := P) (w := w) (base := base) D_29 g_29 (h__law_parts_in base) n_enumerate n_tuple
  have h_is_rules := fun base : Heap => has_is_rules (P := P) (w := w) (base := base) D_30 g_30 (h_is_rule base) v_MOST_RULES v_ONCE n_all n_len n_isinstance n_tuple
  have h__law_rules := fun base : Heap => has__law_rules (P := P) (w := w) (base := base) D_31 g_31 (h__law_pick base) (h__law_rule base) n_range n_len n_tuple
  have h_check_rules := fun base : Heap => has_check_rules (P := P) (w := w) (base := base) D_32 g_32 (h_is_rules base) xf
  have h_read_rules := fun base : Heap => has_read_rules (P := P) (w := w) (base := base) D_33 g_33 (h_rule_in base) (h_is_rules base) (nt base) n_isinstance n_str n_enumerate
  have h_show_rules := fun base : Heap => has_show_rules (P := P) (w := w) (base := base) D_34 g_34 (h_check_rules base) (h_shown_rule base)
  have h__law_told := fun base : Heap => has__law_told (P := P) (w := w) (base := base) D_35 g_35 (h_read_rules base) xf (nt base) n_isinstance n_bool n_int
  have h__law_right := fun base : Heap => has__law_right (P := P) (w := w) (base := base) D_36 g_36 (h__law_due base) (h__law_told base) (h_show_rules base) n_len
  have e := hfa.symm.trans g_37
  cases e
  have b := FunD.bindsA (ps := ["_law_script"]) D_37 fun _ _ _ _ _ _ us hl => match us, hl with | [_], _ => rfl
  exact ⟨fd_37, fun s v => b s [v] rfl, fun base _ _ => fn_law (P := P) (w := w) (base := base) D_37 (h__law_right base) (h__law_cell base) (h__law_purse base) (h__law_pick base) (h__law_rules base) (h__law_row base) (h__law_amiss base) n_all n_range n_len n_min n_max n_int⟩
end NV
open PySem PySem.W PySem.Calls PyProof.Rows
theorem PySem.Challenge.cw_neversoon_k06_texts_of_no_rules_holds : PySem.Challenge.rw_neversoon_k06_texts_of_no_rules.Holds := by
  w_on; o_law
  refine HandSHeadRun.head_any (r := OpenLaw.row PySem.Challenge.rw_neversoon_k06_texts_of_no_rules) (q := view (OpenLaw.row PySem.Challenge.rw_neversoon_k06_texts_of_no_rules).prog [56]) (H := NV.hk) (ob := NV.ob) (M := 12000) (loose := ((["TurnError", "NoRules", "NoText", "is_whole", "LETTERS", "MOST_LETTERS", "WIDE", "is_name", "is_kind", "MOST_RULES", "MOST_SPAN", "MOST_MANY", "MOST_WORDS", "ONCE", "is_between", "are_words", "are_days", "are_hours", "is_rule", "is_rules", "check_rules", "FIGURES", "MOST_FIGURES", "shown_rule"] : List Str) ++ (["show_rules", "number_in", "days_in", "rule_in", "read_rules", "_law_cell", "_law_purse", "_law_pick", "_law_any_name", "_law_kind", "_law_number", "_law_rule", "_law_rules", "_law_row", "_law_figures", "_law_kind_in", "_law_days_in", "_law_words_in", "_law_parts_in", "_law_due", "_law_told", "_law_right", "_law_sign_amiss", "_law_word_amiss"] : List Str) ++ (["_law_row_amiss", "_law_amiss"] : List Str))) (d := HandSHeadRun.topDef (OpenLaw.row PySem.Challenge.rw_neversoon_k06_texts_of_no_rules).prog 56) (kwd := []) NV.ob_eq
    (by kernel_rfl) (fun s => by kernel_rfl) NV.run (by kernel_rfl) (by kernel_rfl) (by kernel_rfl) (by rfl) (by first | assumption | decide +kernel) (by decide +kernel) ⟨rfl, rfl, rfl, rfl, rfl, by decide +kernel⟩ ?hw ?hc
  case hw => w_witness2
  case hc =>
    refine NV.walk_own (l := PySem.Challenge.rw_neversoon_k06_texts_of_no_rules) (n := 63) (k := 9) (x := "_law_script") rfl (by decide) (by kernel_rfl) ⟨rfl, by decide, by decide⟩ ?F
    intro w mg fa h Y G hmg0
    obtain ⟨K, KX, c⟩ := Y
    have hmg : mg ("law" : PySem.Str) = some (.ref fa) := by
      have e : (HandSHeadRun.topDef (OpenLaw.row PySem.Challenge.rw_neversoon_k06_texts_of_no_rules).prog 56).name = ("law" : PySem.Str) := by kernel_rfl
      rw [← e]
      exact hmg0
    obtain ⟨fd, hb, hF⟩ := NV.facts (P := (PySem.Challenge.rw_neversoon_k06_texts_of_no_rules).prog) (w := w) KX G hmg c
    exact ⟨K, fd, NV.F_law, KX, hb, fun ns hl hb => NV.law_all ns hl hb, hF⟩
