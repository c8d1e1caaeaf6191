import PyProof.Rows.All
import Wide.All
import OpenK.AllK
import Wide.FinOn
import HandS.ForSpec
import HandS.ForMost
import HandS.HeadHook1
import HandS.Flow
import HandS.Style
import HandS.TupAny
import HandS.Conv
import HandS.Deep
import HandS.IsInst
import HandS.Text
import HandS.Zip
import KE.LtData
import KE.DataCmp
import KE.DataMinMax
import HandS.WordsDict
import HandS.HeadHook2
import PyProof.Rows.SetFrom
import HandS.Head0
import HandS.Head1
import HandS.Head2
import HandS.HeadEnd
import HandS.HeadWalk
import PyProof.TupleOfStr
import HandS.TupMul
import HandS.SetFor
import KE.DataFind
import HandS.ExcOwn
import HandS.ExcIs
import HandS.HotCalls
import HandS.List
import HandS.Iter
import KE.GoesEnum
import HandS.NoneIn
import PySem.Challenge.RW_neversoon_k03_voices_of_songs
set_option Elab.async false
set_option linter.all false
set_option maxRecDepth 100000
set_option maxHeartbeats 4000000
/-! Core1: data, its representation, environments. -/
namespace NV
open PySem PySem.Spec PyProof.Rows L2
abbrev St := List (Option V)

inductive D where
  | non | bl (b : Bool) | int (i : Int) | str (x : Str)
  | tup (xs : List D) | lst (xs : List D) | dct (kvs : List (Key × D))
  | exn (c : Str) (fs : List D)
  /-- the script -/
  | scr (xs : List Int)
  deriving Inhabited

/-- a text that may stand in a list, a tuple, a dict -/
def StrG (x : Str) : Prop := x.length ≤ sizeLine ∧ PySem.PyData.strOk x = true

/-- the script: it is known to the object, or stands in the written part -/
def SqS (K : PySem.W.Frag) (H : Hp) (a : Addr) (xs : List Int) : Prop :=
  (∃ o, H a = some (.frz o (.lst (xs.map V.int)))) ∨ ∃ (o : Obj) (its : Array Value) (n : Nat), K.lookup a = some o ∧ o.cls = .type "list" ∧ o.dict = none ∧ o.data = .seq its n ∧ its.size ≤ sizeLine ∧ Vals (xs.map V.int) its.toList

/-- at a: an exception of the class at C, without a dict -/
def exoT (a C : Addr) : HO := .ext fun h => ∃ oe vs, h.get? a = some oe ∧ Zc (.ref C) none oe ∧ oe.data = .fields vs
mutual
inductive Rp (K : PySem.W.Frag) (M : Addr → Prop) (H : Hp) : D → V → Prop
  | non : Rp K M H .non .non
  | bl (b : Bool) : Rp K M H (.bl b) (.bl b)
  | int (i : Int) : Rp K M H (.int i) (.int i)
  | str {x : Str} : StrG x → Rp K M H (.str x) (.str x)
  | tup {a : Addr} {vs : List V} {ds : List D} : ds.length ≤ sizeLine → SqT K H a vs → RpL K M H ds vs → Rp K M H (.tup ds) (.ref a)
  | lst {a : Addr} {vs : List V} {ds : List D} : ds.length ≤ sizeLine → ¬ M a → H a = some (.lst vs) → RpL K M H ds vs → Rp K M H (.lst ds) (.ref a)
  | dct {a : Addr} {ws : List (Key × V)} {kvs : List (Key × D)} : kvs.length ≤ sizeLine → ¬ M a → H a = some (.dK ws) → RpK K M H kvs ws → Rp K M H (.dct kvs) (.ref a)
  | scr {a : Addr} {xs : List Int} : xs.length ≤ sizeLine → SqS K H a xs → Rp K M H (.scr xs) (.ref a)
  | exn {a : Addr} {c : Str} : ¬ M a → H a = some (exoT a (He.ga K c)) → Rp K M H (.exn c []) (.ref a)
inductive RpL (K : PySem.W.Frag) (M : Addr → Prop) (H : Hp) : List D → List V → Prop
  | nil : RpL K M H [] []
  | cons {d : D} {ds : List D} {v : V} {vs : List V} : Rp K M H d v → RpL K M H ds vs → RpL K M H (d :: ds) (v :: vs)
inductive RpK (K : PySem.W.Frag) (M : Addr → Prop) (H : Hp) : List (Key × D) → List (Key × V) → Prop
  | nil : RpK K M H [] []
  | cons {k : Key} {d : D} {ds : List (Key × D)} {v : V} {vs : List (Key × V)} : Rp K M H d v → RpK K M H ds vs → RpK K M H ((k, d) :: ds) ((k, v) :: vs)
end

/-- what never changes -/
def Imm : HO → Prop
  | .tup _ => True
  | .frz _ _ => True
  | _ => False

/-- from one heap to a later one: what is tracked and not owned is as it was, and is not owned later -/
def Ext (M : Addr → Prop) (H : Hp) (M' : Addr → Prop) (H' : Hp) : Prop :=
  ∀ b o, H b = some o → (¬ M b ∨ Imm o) → H' b = some o ∧ (¬ M b → ¬ M' b)

theorem Ext.refl {M : Addr → Prop} {H : Hp} : Ext M H M H := fun _ _ e _ => ⟨e, fun n => n⟩
theorem Ext.trans {M M1 M2 : Addr → Prop} {H H1 H2 : Hp} (a : Ext M H M1 H1) (b : Ext M1 H1 M2 H2) : Ext M H M2 H2 := fun c o e h => by
  obtain ⟨e1, n1⟩ := a c o e h
  rcases h with h | h
  · obtain ⟨e2, n2⟩ := b c o e1 (.inl (n1 h))
    exact ⟨e2, fun n => n2 (n1 n)⟩
  · obtain ⟨e2, n2⟩ := b c o e1 (.inr h)
    exact ⟨e2, fun n => n2 (n1 n)⟩

theorem Ext.sqT {K : PySem.W.Frag} {M M' : Addr → Prop} {H H' : Hp} (x : Ext M H M' H') {a : Addr} {xs : List V} (h : SqT K H a xs) : SqT K H' a xs := by
  rcases h with (h | ⟨o, h⟩) | h
  · exact .inl (.inl (x _ _ h (.inr trivial)).1)
  · exact .inl (.inr ⟨o, (x _ _ h (.inr trivial)).1⟩)
  · exact .inr h
theorem Ext.sqS {K : PySem.W.Frag} {M M' : Addr → Prop} {H H' : Hp} (x : Ext M H M' H') {a : Addr} {xs : List Int} (h : SqS K H a xs) : SqS K H' a xs := by
  rcases h with ⟨o, h⟩ | h
  · exact .inl ⟨o, (x _ _ h (.inr trivial)).1⟩
  · exact .inr h
theorem SqS.sql {K : PySem.W.Frag} {H : Hp} {a : Addr} {xs : List Int} (h : SqS K H a xs) : SqL K H a (xs.map V.int) := by
  rcases h with ⟨o, h⟩ | h
  · exact .inl (.inr ⟨o, h⟩)
  · exact .inr h

section
variable {K : PySem.W.Frag} {M M' : Addr → Prop} {H H' : Hp}
mutual
theorem Rp.ext (x : Ext M H M' H') : ∀ {d : D} {v : V}, Rp K M H d v → Rp K M' H' d v
  | .non, _, h => by cases h; exact .non
  | .bl b, _, h => by cases h; exact .bl b
  | .int i, _, h => by cases h; exact .int i
  | .str z, _, h => by
    cases h with
    | str g => exact .str g
  | .tup ds, _, h => by
    cases h with
    | tup l h1 h2 => exact .tup l (x.sqT h1) (RpL.ext x h2)
  | .lst ds, _, h => by
    cases h with
    | lst l n h1 h2 => exact .lst l ((x _ _ h1 (.inl n)).2 n) (x _ _ h1 (.inl n)).1 (RpL.ext x h2)
  | .dct kvs, _, h => by
    cases h with
    | dct l n h1 h2 => exact .dct l ((x _ _ h1 (.inl n)).2 n) (x _ _ h1 (.inl n)).1 (RpK.ext x h2)
  | .exn _ _, _, h => by
    cases h with
    | exn n h1 => exact .exn ((x _ _ h1 (.inl n)).2 n) (x _ _ h1 (.inl n)).1
  | .scr xs, _, h => by
    cases h with
    | scr l h1 => exact .scr l (x.sqS h1)
theorem RpL.ext (x : Ext M H M' H') : ∀ {ds : List D} {vs : List V}, RpL K M H ds vs → RpL K M' H' ds vs
  | [], _, h => by cases h; exact .nil
  | d :: ds, _, h => by
    cases h with
    | cons h1 h2 => exact .cons (Rp.ext x h1) (RpL.ext x h2)
theorem RpK.ext (x : Ext M H M' H') : ∀ {ds : List (Key × D)} {vs : List (Key × V)}, RpK K M H ds vs → RpK K M' H' ds vs
  | [], _, h => by cases h; exact .nil
  | (k, d) :: ds, _, h => by
    cases h with
    | cons h1 h2 => exact .cons (Rp.ext x h1) (RpK.ext x h2)
end
/-- fewer owned -/
theorem Ext.sub (h : ∀ b, M' b → M b) : Ext M H M' H := fun b o e _ => ⟨e, fun n z => n (h b z)⟩
/-- a new object -/
theorem Ext.new {p : Addr} {o : HO} (hp : H p = none) : Ext M H M (upd H p o) := fun b u e _ => ⟨by rw [upd_ne (ne_of_none e hp)]; exact e, fun n => n⟩
/-- a new object that is owned -/
theorem Ext.newO {p : Addr} {o : HO} (hp : H p = none) : Ext M H (fun b => M b ∨ b = p) (upd H p o) := fun b u e _ =>
  ⟨by rw [upd_ne (ne_of_none e hp)]; exact e, fun n z => z.elim n fun q => ne_of_none e hp q⟩
/-- an owned object is written -/
theorem Ext.write {a : Addr} {o u : HO} (h : M a) (e : H a = some u) (i : ¬ Imm u) : Ext M H M (upd H a o) := fun b q eb hb => by
  have nb : b ≠ a := fun z => by
    subst z
    rw [e] at eb; cases eb
    exact hb.elim (fun n => n h) i
  exact ⟨by rw [upd_ne nb]; exact eb, fun n => n⟩

theorem RpL.length : ∀ {ds : List D} {vs : List V}, RpL K M H ds vs → ds.length = vs.length
  | [], _, h => by cases h; rfl
  | d :: ds, _, h => by
    cases h with
    | cons h1 h2 => simp [RpL.length h2]
theorem RpK.length : ∀ {ds : List (Key × D)} {vs : List (Key × V)}, RpK K M H ds vs → ds.length = vs.length
  | [], _, h => by cases h; rfl
  | d :: ds, _, h => by
    cases h with
    | cons h1 h2 => simp [RpK.length h2]
theorem RpL.get : ∀ {ds : List D} {vs : List V} {i : Nat} {d : D}, RpL K M H ds vs → ds[i]? = some d → ∃ v, vs[i]? = some v ∧ Rp K M H d v
  | [], _, i, _, h, e => by simp at e
  | x :: ds, _, 0, d, h, e => by
    cases h with
    | cons h1 h2 =>
      simp at e; subst e
      exact ⟨_, rfl, h1⟩
  | x :: ds, _, i + 1, d, h, e => by
    cases h with
    | cons h1 h2 =>
      obtain ⟨v, q, r⟩ := RpL.get (i := i) h2 (by simpa using e)
      exact ⟨v, by simpa using q, r⟩
theorem RpL.getV : ∀ {ds : List D} {vs : List V} {i : Nat} {v : V}, RpL K M H ds vs → vs[i]? = some v → ∃ d, ds[i]? = some d ∧ Rp K M H d v
  | [], _, i, _, h, e => by cases h; simp at e
  | x :: ds, _, 0, d, h, e => by
    cases h with
    | cons h1 h2 =>
      simp at e; subst e
      exact ⟨_, rfl, h1⟩
  | x :: ds, _, i + 1, d, h, e => by
    cases h with
    | cons h1 h2 =>
      obtain ⟨v, q, r⟩ := RpL.getV (i := i) h2 (by simpa using e)
      exact ⟨v, by simpa using q, r⟩
theorem RpL.append : ∀ {ds es : List D} {vs ws : List V}, RpL K M H ds vs → RpL K M H es ws → RpL K M H (ds ++ es) (vs ++ ws)
  | [], _, _, _, h, g => by cases h; exact g
  | d :: ds, _, _, _, h, g => by
    cases h with
    | cons h1 h2 => exact .cons h1 (RpL.append h2 g)
theorem RpL.take : ∀ {ds : List D} {vs : List V} (n : Nat), RpL K M H ds vs → RpL K M H (ds.take n) (vs.take n)
  | [], _, n, h => by cases h; simp; exact .nil
  | d :: ds, _, 0, h => by simp; exact .nil
  | d :: ds, _, n + 1, h => by
    cases h with
    | cons h1 h2 => exact .cons h1 (RpL.take n h2)
theorem RpL.drop : ∀ {ds : List D} {vs : List V} (n : Nat), RpL K M H ds vs → RpL K M H (ds.drop n) (vs.drop n)
  | [], _, n, h => by cases h; simp; exact .nil
  | d :: ds, _, 0, h => by simpa using h
  | d :: ds, _, n + 1, h => by
    cases h with
    | cons h1 h2 => exact RpL.drop n h2
theorem RpL.set {d : D} {v : V} (r : Rp K M H d v) : ∀ {ds : List D} {vs : List V} (i : Nat), RpL K M H ds vs → RpL K M H (ds.set i d) (vs.set i v)
  | [], _, i, h => by cases h; exact .nil
  | x :: ds, _, 0, h => by
    cases h with
    | cons h1 h2 => exact .cons r h2
  | x :: ds, _, i + 1, h => by
    cases h with
    | cons h1 h2 => exact .cons h1 (RpL.set r i h2)
theorem RpL.eraseIdx : ∀ {ds : List D} {vs : List V} (i : Nat), RpL K M H ds vs → RpL K M H (ds.eraseIdx i) (vs.eraseIdx i)
  | [], _, i, h => by cases h; exact .nil
  | x :: ds, _, 0, h => by
    cases h with
    | cons h1 h2 => exact h2
  | x :: ds, _, i + 1, h => by
    cases h with
    | cons h1 h2 => exact .cons h1 (RpL.eraseIdx i h2)
theorem RpL.reverse : ∀ {ds : List D} {vs : List V}, RpL K M H ds vs → RpL K M H ds.reverse vs.reverse
  | [], _, h => by cases h; exact .nil
  | x :: ds, _, h => by
    cases h with
    | cons h1 h2 =>
      simp only [List.reverse_cons]
      exact RpL.append (RpL.reverse h2) (.cons h1 .nil)
end

/-! ### environments -/
inductive Slot where
  /-- nothing is known -/
  | no
  /-- a value -/
  | v (d : D)
  /-- a mutable object of this def's own -/
  | o (d : D)
  /-- a mutable object that is a parameter -/
  | p (d : D)
  deriving Inhabited
abbrev Env := List Slot

/-- the owned object at a holds d -/
def Ow (K : PySem.W.Frag) (M : Addr → Prop) (H : Hp) : D → Addr → Prop
  | .lst ds, a => M a ∧ ds.length ≤ sizeLine ∧ ∃ vs, H a = some (.lst vs) ∧ RpL K M H ds vs
  | .dct kvs, a => M a ∧ kvs.length ≤ sizeLine ∧ ∃ ws, H a = some (.dK ws) ∧ RpK K M H kvs ws
  | _, _ => False

theorem Ow.mem {K : PySem.W.Frag} {M : Addr → Prop} {H : Hp} {d : D} {a : Addr} (h : Ow K M H d a) : M a := by
  cases d <;> first | exact h.1 | exact h.elim
theorem Ow.there {K : PySem.W.Frag} {M : Addr → Prop} {H : Hp} {d : D} {a : Addr} (h : Ow K M H d a) : ∃ o, H a = some o ∧ ¬ Imm o := by
  cases d with
  | lst ds => obtain ⟨_, _, vs, e, _⟩ := h; exact ⟨_, e, fun z => z⟩
  | dct ds => obtain ⟨_, _, vs, e, _⟩ := h; exact ⟨_, e, fun z => z⟩
  | _ => exact h.elim
/-- the object itself is as it was, what it holds is not owned -/
theorem Ow.ext {K : PySem.W.Frag} {M M' : Addr → Prop} {H H' : Hp} {d : D} {a : Addr} (x : Ext M H M' H') (hm : M' a) (he : H' a = H a) (h : Ow K M H d a) : Ow K M' H' d a := by
  cases d with
  | lst ds =>
    obtain ⟨_, l, vs, e, r⟩ := h
    exact ⟨hm, l, vs, by rw [he]; exact e, RpL.ext x r⟩
  | dct ds =>
    obtain ⟨_, l, vs, e, r⟩ := h
    exact ⟨hm, l, vs, by rw [he]; exact e, RpK.ext x r⟩
  | _ => exact h.elim

/-- where a body begins: the owned ones, the heap, the parameters that are owned -/
structure Base where
  M : Addr → Prop
  H : Hp
  pa : Nat → Option Addr
  /-- what is being made meanwhile -/
  pr : List (Addr × HO) := []
  mt : ∀ b, M b → H b ≠ none

def SlotOk (K : PySem.W.Frag) (B : Base) (M : Addr → Prop) (H : Hp) (i : Nat) : Slot → Option V → Prop
  | .no, _ => True
  | .v d, x => ∃ v, x = some v ∧ Rp K M H d v
  | .o d, x => ∃ a, x = some (.ref a) ∧ Ow K M H d a ∧ B.H a = none
  | .p d, x => ∃ a, x = some (.ref a) ∧ Ow K M H d a ∧ B.pa i = some a

def isOwn : Slot → Bool
  | .o _ => true
  | .p _ => true
  | _ => false

/-- no slot owns what stands at a -/
def Anon (ρ : Env) (σ : St) (a : Addr) : Prop := ∀ (i : Nat) (s : Slot), ρ[i]? = some s → isOwn s = true → σ[i]? ≠ some (some (V.ref a))
structure Rep (K : PySem.W.Frag) (B : Base) (M : Addr → Prop) (H : Hp) (ρ : Env) (σ : St) : Prop where
  keep : ∀ b o, B.H b = some o → (∀ i, B.pa i ≠ some b) → H b = some o
  old : ∀ b, B.H b ≠ none → H b ≠ none
  sub : ∀ b, B.M b → M b
  new : ∀ b, M b → B.M b ∨ B.H b = none
  trk : ∀ b, M b → H b ≠ none
  len : ρ.length = σ.length
  slot : ∀ (i : Nat) (s : Slot), ρ[i]? = some s → SlotOk K B M H i s (σ[i]?.join)
  apart : ∀ (i j : Nat) (s t : Slot) (a : Addr), i ≠ j → ρ[i]? = some s → ρ[j]? = some t → isOwn s = true → isOwn t = true → σ[i]? = some (some (V.ref a)) → σ[j]? = some (some (V.ref a)) → False
  pr : ∀ p ∈ B.pr, H p.1 = some p.2 ∧ M p.1 ∧ Anon ρ σ p.1

theorem SlotOk.ext {K : PySem.W.Frag} {B : Base} {M M' : Addr → Prop} {H H' : Hp} {i : Nat} {s : Slot} {x : Option V} (e : Ext M H M' H')
    (ho : ∀ a, isOwn s = true → x = some (.ref a) → M a → M' a ∧ H' a = H a) (h : SlotOk K B M H i s x) : SlotOk K B M' H' i s x := by
  cases s with
  | no => trivial
  | v d => obtain ⟨v, e1, r⟩ := h; exact ⟨v, e1, r.ext e⟩
  | o d =>
    obtain ⟨a, e1, r, n⟩ := h
    obtain ⟨m, q⟩ := ho a rfl e1 r.mem
    exact ⟨a, e1, r.ext e m q, n⟩
  | p d =>
    obtain ⟨a, e1, r, n⟩ := h
    obtain ⟨m, q⟩ := ho a rfl e1 r.mem
    exact ⟨a, e1, r.ext e m q, n⟩
theorem SlotOk.own {K : PySem.W.Frag} {B : Base} {M : Addr → Prop} {H : Hp} {i : Nat} {s : Slot} {x : Option V} (h : SlotOk K B M H i s x) (hs : isOwn s = true) :
    ∃ a d, x = some (.ref a) ∧ Ow K M H d a ∧ ((s = .o d ∧ B.H a = none) ∨ (s = .p d ∧ B.pa i = some a)) := by
  cases s with
  | no => cases hs
  | v d => cases hs
  | o d => obtain ⟨a, e1, r, n⟩ := h; exact ⟨a, d, e1, r, .inl ⟨rfl, n⟩⟩
  | p d => obtain ⟨a, e1, r, n⟩ := h; exact ⟨a, d, e1, r, .inr ⟨rfl, n⟩⟩
theorem join_of {σ : St} {i : Nat} {v : V} (h : σ[i]?.join = some v) : σ[i]? = some (some v) := by
  cases e : σ[i]? with
  | none => rw [e] at h; cases h
  | some x => rw [e] at h; cases x with
    | none => cases h
    | some y => cases h; rfl
theorem of_join {σ : St} {i : Nat} {v : V} (h : σ[i]? = some (some v)) : σ[i]?.join = some v := by rw [h]; rfl

section
variable {K : PySem.W.Frag} {B : Base} {M M' : Addr → Prop} {H H' : Hp} {ρ ρ' : Env} {σ σ' : St}
/-- the names stay, the heap changes -/
theorem Rep.change (r : Rep K B M H ρ σ) (hk : ∀ b o, B.H b = some o → (∀ i, B.pa i ≠ some b) → H b = some o → H' b = some o) (ho : ∀ b, H b ≠ none → H' b ≠ none)
    (hm : ∀ b, M b → M' b) (hn : ∀ b, M' b → M b ∨ H b = none) (ht : ∀ b, M' b → H' b ≠ none) (hl : ρ'.length = ρ.length) (hp : ∀ p ∈ B.pr, H p.1 = some p.2 → H' p.1 = some p.2)
    (hs : ∀ (i : Nat) (s' : Slot), ρ'[i]? = some s' → SlotOk K B M' H' i s' (σ[i]?.join) ∧ ∃ s, ρ[i]? = some s ∧ isOwn s' = isOwn s) : Rep K B M' H' ρ' σ where
  keep := fun b o h1 h2 => hk b o h1 h2 (r.keep b o h1 h2)
  old := fun b h => ho b (r.old b h)
  sub := fun b h => hm b (r.sub b h)
  new := fun b h => (hn b h).elim (r.new b) fun n => by
    cases q : B.H b with
    | none => exact .inr rfl
    | some o => exact absurd n (r.old b (by rw [q]; simp))
  trk := ht
  len := hl.trans r.len
  slot := fun i s h => (hs i s h).1
  apart := fun i j s t a ne h1 h2 o1 o2 => by
    obtain ⟨_, s0, e1, q1⟩ := hs i s h1
    obtain ⟨_, t0, e2, q2⟩ := hs j t h2
    exact r.apart i j s0 t0 a ne e1 e2 (q1 ▸ o1) (q2 ▸ o2)
  pr := fun p hm2 => by
    obtain ⟨h1, h2, h3⟩ := r.pr p hm2
    refine ⟨hp p hm2 h1, hm _ h2, fun i s hi ho => ?_⟩
    obtain ⟨_, s0, e1, q1⟩ := hs i s hi
    exact h3 i s0 e1 (q1 ▸ ho)
/-- the heap has grown, nothing that was owned is changed -/
theorem Rep.grow (r : Rep K B M H ρ σ) (e : Ext M H M' H') (hs : ∀ b o, H b = some o → H' b = some o) (hm : ∀ b, M b → M' b) (hn : ∀ b, M' b → M b ∨ H b = none) (ht : ∀ b, M' b → H' b ≠ none) : Rep K B M' H' ρ σ :=
  r.change (fun b o _ _ q => hs b o q) (fun b h => by
    cases q : H b with
    | none => exact absurd q h
    | some o => rw [hs b o q]; simp) hm hn ht rfl (fun p _ q => hs _ _ q) fun i s h => ⟨(r.slot i s h).ext e fun a _ _ m => ⟨hm a m, by
      cases q : H a with
      | none => exact absurd q (r.trk a m)
      | some o => exact hs a o q⟩, s, h, rfl⟩
/-- a new object, not owned -/
theorem Rep.alloc (r : Rep K B M H ρ σ) {p : Addr} {o : HO} (hp : H p = none) : Rep K B M (upd H p o) ρ σ :=
  r.grow (Ext.new hp) (fun b u e => by rw [upd_ne (ne_of_none e hp)]; exact e) (fun _ h => h) (fun _ h => .inl h) fun b h z => by
    have n := r.trk b h
    by_cases e : b = p
    · rw [e] at n; exact n hp
    · rw [upd_ne e] at z; exact n z
/-- a new object, owned -/
theorem Rep.allocO (r : Rep K B M H ρ σ) {p : Addr} {o : HO} (hp : H p = none) : Rep K B (fun b => M b ∨ b = p) (upd H p o) ρ σ :=
  r.grow (Ext.newO hp) (fun b u e => by rw [upd_ne (ne_of_none e hp)]; exact e) (fun _ h => .inl h) (fun b h => h.imp id fun e => by rw [e]; exact hp) fun b h z => by
    by_cases e : b = p
    · rw [e, upd_same] at z; cases z
    · rw [upd_ne e] at z
      exact h.elim (fun q => r.trk b q z) e
theorem Rep.own_ne (r : Rep K B M H ρ σ) {i : Nat} {s : Slot} {a p : Addr} (_h : ρ[i]? = some s) (_o : isOwn s = true) (hv : σ[i]? = some (some (V.ref a))) (hp : H p = none) : a ≠ p := fun e => by
  obtain ⟨a', d, e1, w, _⟩ := (r.slot i s _h).own _o
  rw [of_join hv] at e1
  cases e1
  obtain ⟨o, q, _⟩ := w.there
  rw [e, hp] at q
  cases q
/-- the same kind of slot, another content -/
def reSlot (s : Slot) (d' : D) : Slot := match s with
  | .p _ => .p d'
  | _ => .o d'
/-- the owned object of slot i is written -/
theorem Rep.mutate (r : Rep K B M H ρ σ) {i : Nat} {s s' : Slot} {a : Addr} {u : HO} {d' : D} (hi : ρ[i]? = some s) (ho : isOwn s = true) (hv : σ[i]? = some (some (V.ref a)))
    (hw : Ow K M (upd H a u) d' a) (hs : s' = reSlot s d') : Rep K B M (upd H a u) (ρ.set i s') σ := by
  obtain ⟨a', d, e1, w, k⟩ := (r.slot i s hi).own ho
  rw [of_join hv] at e1
  cases e1
  obtain ⟨o0, q0, im⟩ := w.there
  have hx : Ext M H M (upd H a u) := Ext.write w.mem q0 im
  refine r.change (fun b o h1 h2 h3 => ?_) (fun b h => ?_) (fun _ h => h) (fun _ h => .inl h) (fun b h => ?_) (by simp) (fun p hp q => ?_) fun j t hj => ?_
  · have nb : b ≠ a := fun e => by
      subst e
      rcases k with ⟨_, k⟩ | ⟨_, k⟩
      · rw [k] at h1; cases h1
      · exact h2 i k
    rw [upd_ne nb]; exact h3
  · by_cases e : b = a
    · rw [e, upd_same]; simp
    · rw [upd_ne e]; exact h
  · by_cases e : b = a
    · rw [e, upd_same]; simp
    · rw [upd_ne e]; exact r.trk b h
  · rw [upd_ne fun e => (r.pr p hp).2.2 i s hi ho (by rw [e]; exact hv)]
    exact q
  · by_cases e : j = i
    · subst e
      have hlt : j < ρ.length := (List.getElem?_eq_some_iff.mp hi).1
      rw [List.getElem?_set_self hlt] at hj
      cases hj
      refine ⟨?_, s, hi, ?_⟩
      · rw [of_join hv]
        rcases k with ⟨rfl, k⟩ | ⟨rfl, k⟩
        · subst hs; exact ⟨a, rfl, hw, k⟩
        · subst hs; exact ⟨a, rfl, hw, k⟩
      · rcases k with ⟨rfl, k⟩ | ⟨rfl, k⟩ <;> (subst hs; rfl)
    · rw [List.getElem?_set_ne (Ne.symm e)] at hj
      refine ⟨(r.slot j t hj).ext hx fun b ot hb mb => ⟨mb, ?_⟩, t, hj, rfl⟩
      have nb : b ≠ a := fun q => by
        subst q
        exact r.apart i j s t b (Ne.symm e) hi hj ho ot hv (join_of hb)
      exact upd_ne nb
/-- a name is stored -/
theorem Rep.setV (r : Rep K B M H ρ σ) (i : Nat) {d : D} {v : V} (h : Rp K M H d v) : Rep K B M H (ρ.set i (.v d)) (σ.set i (some v)) where
  keep := r.keep
  old := r.old
  sub := r.sub
  new := r.new
  trk := r.trk
  len := by simp [r.len]
  slot := fun j s hj => by
    by_cases e : j = i
    · subst e
      by_cases hlt : j < ρ.length
      · rw [List.getElem?_set_self hlt] at hj
        cases hj
        rw [List.getElem?_set_self (r.len ▸ hlt)]
        exact ⟨v, rfl, h⟩
      · rw [List.getElem?_eq_none (by simpa using hlt)] at hj; cases hj
    · rw [List.getElem?_set_ne (Ne.symm e)] at hj ⊢
      exact r.slot j s hj
  apart := fun j k s t a ne h1 h2 o1 o2 v1 v2 => by
    by_cases e : j = i
    · subst e
      by_cases hlt : j < ρ.length
      · rw [List.getElem?_set_self hlt] at h1; cases h1; cases o1
      · rw [List.getElem?_eq_none (by simpa using hlt)] at h1; cases h1
    · by_cases e' : k = i
      · subst e'
        by_cases hlt : k < ρ.length
        · rw [List.getElem?_set_self hlt] at h2; cases h2; cases o2
        · rw [List.getElem?_eq_none (by simpa using hlt)] at h2; cases h2
      · rw [List.getElem?_set_ne (Ne.symm e)] at h1 v1
        rw [List.getElem?_set_ne (Ne.symm e')] at h2 v2
        exact r.apart j k s t a ne h1 h2 o1 o2 v1 v2
  pr := fun p hp => by
    obtain ⟨h1, h2, h3⟩ := r.pr p hp
    refine ⟨h1, h2, fun j s hj ho => ?_⟩
    by_cases e : j = i
    · subst e
      by_cases hlt : j < ρ.length
      · rw [List.getElem?_set_self hlt] at hj; cases hj; cases ho
      · rw [List.getElem?_eq_none (by simpa using hlt)] at hj; cases hj
    · rw [List.getElem?_set_ne (Ne.symm e)] at hj ⊢
      exact h3 j s hj ho
theorem Rep.setO (r : Rep K B M H ρ σ) (i : Nat) {d : D} {a : Addr} (h : Ow K M H d a) (hb : B.H a = none) (an : Anon ρ σ a) (np : ∀ p ∈ B.pr, p.1 ≠ a) : Rep K B M H (ρ.set i (.o d)) (σ.set i (some (V.ref a))) where
  keep := r.keep
  old := r.old
  sub := r.sub
  new := r.new
  trk := r.trk
  len := by simp [r.len]
  slot := fun j s hj => by
    by_cases e : j = i
    · subst e
      by_cases hlt : j < ρ.length
      · rw [List.getElem?_set_self hlt] at hj
        cases hj
        rw [List.getElem?_set_self (r.len ▸ hlt)]
        exact ⟨a, rfl, h, hb⟩
      · rw [List.getElem?_eq_none (by simpa using hlt)] at hj; cases hj
    · rw [List.getElem?_set_ne (Ne.symm e)] at hj ⊢
      exact r.slot j s hj
  apart := fun j k s t b ne h1 h2 o1 o2 v1 v2 => by
    by_cases e : j = i
    · subst e
      by_cases hlt : j < ρ.length
      · rw [List.getElem?_set_self (r.len ▸ hlt)] at v1
        cases v1
        rw [List.getElem?_set_ne ne] at h2 v2
        exact an k t h2 o2 v2
      · rw [List.getElem?_eq_none (by simpa using hlt)] at h1; cases h1
    · by_cases e' : k = i
      · subst e'
        by_cases hlt : k < ρ.length
        · rw [List.getElem?_set_self (r.len ▸ hlt)] at v2
          cases v2
          rw [List.getElem?_set_ne (Ne.symm e)] at h1 v1
          exact an j s h1 o1 v1
        · rw [List.getElem?_eq_none (by simpa using hlt)] at h2; cases h2
      · rw [List.getElem?_set_ne (Ne.symm e)] at h1 v1
        rw [List.getElem?_set_ne (Ne.symm e')] at h2 v2
        exact r.apart j k s t b ne h1 h2 o1 o2 v1 v2
  pr := fun p hp => by
    obtain ⟨h1, h2, h3⟩ := r.pr p hp
    refine ⟨h1, h2, fun j s hj ho hv => ?_⟩
    by_cases e : j = i
    · subst e
      by_cases hlt : j < ρ.length
      · rw [List.getElem?_set_self (r.len ▸ hlt)] at hv
        cases hv
        exact np p hp rfl
      · rw [List.getElem?_eq_none (by simpa using hlt)] at hj; cases hj
    · rw [List.getElem?_set_ne (Ne.symm e)] at hj hv
      exact h3 j s hj ho hv
/-- forgetting a slot -/
theorem Rep.setNo (r : Rep K B M H ρ σ) (i : Nat) (x : Option V) : Rep K B M H (ρ.set i .no) (σ.set i x) where
  keep := r.keep
  old := r.old
  sub := r.sub
  new := r.new
  trk := r.trk
  len := by simp [r.len]
  slot := fun j s hj => by
    by_cases e : j = i
    · subst e
      by_cases hlt : j < ρ.length
      · rw [List.getElem?_set_self hlt] at hj
        cases hj
        trivial
      · rw [List.getElem?_eq_none (by simpa using hlt)] at hj; cases hj
    · rw [List.getElem?_set_ne (Ne.symm e)] at hj ⊢
      exact r.slot j s hj
  apart := fun j k s t a ne h1 h2 o1 o2 v1 v2 => by
    by_cases e : j = i
    · subst e
      by_cases hlt : j < ρ.length
      · rw [List.getElem?_set_self hlt] at h1; cases h1; cases o1
      · rw [List.getElem?_eq_none (by simpa using hlt)] at h1; cases h1
    · by_cases e' : k = i
      · subst e'
        by_cases hlt : k < ρ.length
        · rw [List.getElem?_set_self hlt] at h2; cases h2; cases o2
        · rw [List.getElem?_eq_none (by simpa using hlt)] at h2; cases h2
      · rw [List.getElem?_set_ne (Ne.symm e)] at h1 v1
        rw [List.getElem?_set_ne (Ne.symm e')] at h2 v2
        exact r.apart j k s t a ne h1 h2 o1 o2 v1 v2
  pr := fun p hp => by
    obtain ⟨h1, h2, h3⟩ := r.pr p hp
    refine ⟨h1, h2, fun j s hj ho => ?_⟩
    by_cases e : j = i
    · subst e
      by_cases hlt : j < ρ.length
      · rw [List.getElem?_set_self hlt] at hj; cases hj; cases ho
      · rw [List.getElem?_eq_none (by simpa using hlt)] at hj; cases hj
    · rw [List.getElem?_set_ne (Ne.symm e)] at hj ⊢
      exact h3 j s hj ho
/-- what is owned by no slot and was made here is owned no more -/
theorem Rep.drop (r : Rep K B M H ρ σ) {a : Addr} (hb : B.H a = none) (an : Anon ρ σ a) (np : ∀ p ∈ B.pr, p.1 ≠ a) : Rep K B (fun b => M b ∧ b ≠ a) H ρ σ where
  keep := r.keep
  old := r.old
  sub := fun b h => ⟨r.sub b h, fun e => by subst e; exact B.mt b h hb⟩
  new := fun b h => r.new b h.1
  trk := fun b h => r.trk b h.1
  len := r.len
  slot := fun i s h => (r.slot i s h).ext (Ext.sub fun _ z => z.1) fun b o e m => ⟨⟨m, fun z => by subst z; exact an i s h o (join_of e)⟩, rfl⟩
  apart := r.apart
  pr := fun p hp => ⟨(r.pr p hp).1, ⟨(r.pr p hp).2.1, np p hp⟩, (r.pr p hp).2.2⟩
/-- slot i is owned no more: its object is a value from now on -/
theorem Rep.frz (r : Rep K B M H ρ σ) {i : Nat} {d : D} (hi : ρ[i]? = some (.o d)) : ∃ M', (∀ b, M' b → M b) ∧ Rep K B M' H (ρ.set i (.v d)) σ := by
  obtain ⟨a, e1, w, nb⟩ := r.slot i _ hi
  have hv := join_of e1
  have an : Anon (ρ.set i .no) (σ.set i (some (V.ref a))) a := fun j s hj ho hv' => by
    by_cases e : j = i
    · subst e
      rw [List.getElem?_set_self (List.getElem?_eq_some_iff.mp hi).1] at hj
      cases hj; cases ho
    · rw [List.getElem?_set_ne (Ne.symm e)] at hj hv'
      exact r.apart j i s _ a e hj hi ho rfl hv' hv
  have r2 := (r.setNo i (some (V.ref a))).drop nb an fun p hp z => (r.pr p hp).2.2 i _ hi rfl (by rw [z]; exact hv)
  have es : σ.set i (some (V.ref a)) = σ := by
    apply List.ext_getElem?
    intro j
    by_cases e : j = i
    · subst e
      rw [List.getElem?_set_self (List.getElem?_eq_some_iff.mp hv).1, hv]
    · rw [List.getElem?_set_ne (Ne.symm e)]
  have rp : Rp K (fun b => M b ∧ b ≠ a) H d (.ref a) := by
    have x : Ext M H (fun b => M b ∧ b ≠ a) H := Ext.sub fun _ z => z.1
    cases d with
    | lst ds => obtain ⟨_, l, vs, e, q⟩ := w; exact .lst l (fun z => z.2 rfl) e (RpL.ext x q)
    | dct ds => obtain ⟨_, l, vs, e, q⟩ := w; exact .dct l (fun z => z.2 rfl) e (RpK.ext x q)
    | _ => exact w.elim
  have r3 := r2.setV i rp
  rw [List.set_set, List.set_set, es] at r3
  exact ⟨_, fun b z => z.1, r3⟩
end
end NV

set_option Elab.async false
set_option linter.all false
set_option maxRecDepth 100000
set_option maxHeartbeats 4000000
/-! Core2: what a piece of syntax does, as a plain function of the environment. -/
namespace NV
open PySem PySem.Spec PyProof.Rows L2

structure Exn where
  cls : Str
  fs : List D := []

inductive Res (α : Type) where
  | ok (a : α) (ρ : Env)
  | exc (x : Exn) (ρ : Env)
  /-- nothing is told -/
  | bad
def Res.bind {α β : Type} : Res α → (α → Env → Res β) → Res β
  | .ok a ρ, f => f a ρ
  | .exc x ρ, _ => .exc x ρ
  | .bad, _ => .bad
theorem bind_ok {α β : Type} (a : α) (ρ : Env) (f : α → Env → Res β) : (Res.ok a ρ).bind f = f a ρ := rfl
theorem bind_exc {α β : Type} (x : Exn) (ρ : Env) (f : α → Env → Res β) : (Res.exc x ρ).bind f = .exc x ρ := rfl
theorem bind_bad {α β : Type} (f : α → Env → Res β) : (Res.bad).bind f = .bad := rfl
def ofO {α : Type} (o : Option α) (ρ : Env) : Res α := match o with
  | some a => .ok a ρ
  | none => .bad
theorem ofO_some {α : Type} (a : α) (ρ : Env) : ofO (some a) ρ = .ok a ρ := rfl
theorem ofO_none {α : Type} (ρ : Env) : ofO (none : Option α) ρ = .bad := rfl

/-- an operand: a value, or the owned object of a slot, read late -/
inductive RV where
  | val (d : D)
  | own (i : Nat)
def RV.get (ρ : Env) : RV → Option D
  | .val x => some x
  | .own i => match ρ[i]? with
    | some (.o d) => some d
    | some (.p d) => some d
    | _ => none
theorem get_d (ρ : Env) (d : D) : (RV.val d).get ρ = some d := rfl

abbrev EM := Env → Res D
abbrev RM := Env → Res RV
abbrev TM := Env → Res Bool
abbrev AM := Env → Res (List RV)

def ExR (K : PySem.W.Frag) (mg : Str → Option Value) (M : Addr → Prop) (H : Hp) (x : Exn) (c : Value) (dx : Option Addr) : Prop :=
  ∃ C, mg x.cls = some (Value.ref C) ∧ c = .ref C ∧ match x.fs with
    | [] => dx = none
    | [d] => ∃ a v, dx = some a ∧ H a = some (.xd [("row", v)]) ∧ Rp K M H d v
    | _ => False

section
variable {α β γ δ : Type}
/-- what must hold behind a result -/
def Post (X : Cx) (B : Base) (W : WX) (R : (Addr → Prop) → Hp → Env → α → β → Prop) (M : Addr → Prop) (H : Hp) (σ : St) (r : Res α) (Q : β → Hp → Prop) : Prop := match r with
  | .ok a ρ' => ∀ (M' : Addr → Prop) (H' : Hp) (b : β), Ext M H M' H' → Rep X.K B M' H' ρ' σ → R M' H' ρ' a b → Q b H'
  | .exc x ρ' => ∀ (M' : Addr → Prop) (H' : Hp) (c : Value) (dx : Option Addr), Ext M H M' H' → Rep X.K B M' H' ρ' σ → ExR X.K X.mg M' H' x c dx → W c dx σ H'
  | .bad => False
variable {X : Cx} {B : Base} {W : WX} {M M' : Addr → Prop} {H H' : Hp} {σ : St} {R : (Addr → Prop) → Hp → Env → α → β → Prop} {R2 : (Addr → Prop) → Hp → Env → γ → δ → Prop}
theorem Post.shift {r : Res α} {Q : β → Hp → Prop} (e : Ext M H M' H') (h : Post X B W R M H σ r Q) : Post X B W R M' H' σ r Q := by
  cases r with
  | ok a ρ => exact fun M2 H2 b e2 r2 q => h M2 H2 b (e.trans e2) r2 q
  | exc x ρ => exact fun M2 H2 c dx e2 r2 q => h M2 H2 c dx (e.trans e2) r2 q
  | bad => exact h
/-- in a row -/
theorem Post.seq {r : Res α} {f : α → Env → Res γ} {Q : δ → Hp → Prop} {Q1 : β → Hp → Prop} (h : Post X B W R2 M H σ (r.bind f) Q)
    (k : ∀ a ρ' M' H' b, Ext M H M' H' → Rep X.K B M' H' ρ' σ → R M' H' ρ' a b → Post X B W R2 M' H' σ (f a ρ') Q → Q1 b H') : Post X B W R M H σ r Q1 := by
  cases r with
  | ok a ρ => exact fun M2 H2 b e2 r2 q => k a ρ M2 H2 b e2 r2 q (Post.shift e2 h)
  | exc x ρ => exact h
  | bad => exact h
theorem Post.imp {R' : (Addr → Prop) → Hp → Env → α → β → Prop} {r : Res α} {Q Q' : β → Hp → Prop} (h : Post X B W R M H σ r Q)
    (k : ∀ a ρ' M' H' b, r = .ok a ρ' → Ext M H M' H' → Rep X.K B M' H' ρ' σ → R' M' H' ρ' a b → (∀ (M2 : Addr → Prop) (H2 : Hp) (b : β), Ext M H M2 H2 → Rep X.K B M2 H2 ρ' σ → R M2 H2 ρ' a b → Q b H2) → Q' b H') : Post X B W R' M H σ r Q' := by
  cases r with
  | ok a ρ => exact fun M2 H2 b e2 r2 q => k a ρ M2 H2 b rfl e2 r2 q h
  | exc x ρ => exact h
  | bad => exact h
end

abbrev RelE (K : PySem.W.Frag) : (Addr → Prop) → Hp → Env → D → V → Prop := fun M H _ d v => Rp K M H d v
def RelR (K : PySem.W.Frag) (σ : St) : (Addr → Prop) → Hp → Env → RV → V → Prop := fun M H _ r v => match r with
  | .val d => Rp K M H d v
  | .own i => σ[i]? = some (some v)
abbrev RelF (K : PySem.W.Frag) (B : Base) (σ : St) : (Addr → Prop) → Hp → Env → D → V → Prop := fun M H ρ d v => ∃ a, v = .ref a ∧ Ow K M H d a ∧ B.H a = none ∧ Anon ρ σ a ∧ ∀ p ∈ B.pr, p.1 ≠ a
abbrev RelT : (Addr → Prop) → Hp → Env → Bool → Bool → Prop := fun _ _ _ a b => a = b
def RelA (K : PySem.W.Frag) (σ : St) : (Addr → Prop) → Hp → Env → List RV → List V → Prop := fun M H ρ rs vs => Paired (fun r v => RelR K σ M H ρ r v) rs vs

/-- a reading is served by a function -/
def Sat {α β : Type} (X : Cx) (W : WX) (R : Base → St → (Addr → Prop) → Hp → Env → α → β → Prop) (t : St → Hp → (β → Hp → Prop) → Prop) (m : Env → Res α) : Prop :=
  ∀ (B : Base) (M : Addr → Prop) (H : Hp) (ρ : Env) (σ : St) (Q : β → Hp → Prop), Rep X.K B M H ρ σ → Post X B W (R B σ) M H σ (m ρ) Q → t σ H Q
def DE (X : Cx) (W : WX) (e : Expr) (m : EM) : Prop := ∃ t, PE X e t ∧ Sat X W (fun _ _ => RelE X.K) t m
def DR (X : Cx) (W : WX) (e : Expr) (m : RM) : Prop := ∃ t, PE X e t ∧ Sat X W (fun _ σ => RelR X.K σ) t m
def DF (X : Cx) (W : WX) (e : Expr) (m : EM) : Prop := ∃ t, PE X e t ∧ Sat X W (fun B σ => RelF X.K B σ) t m
def DT (X : Cx) (W : WX) (e : Expr) (m : TM) : Prop := ∃ t, PT X e t ∧ Sat X W (fun _ _ => RelT) t m
def DW (X : Cx) (W : WX) (e : Expr) (m : TM) : Prop := ∃ t, PW X e t ∧ Sat X W (fun _ _ => RelT) t m
def DA (X : Cx) (W : WX) (es : List Expr) (m : AM) : Prop := ∃ t, PA X es t ∧ Sat X W (fun _ σ => RelA X.K σ) t m

/-! ### coercions -/
theorem Ow.rp {K : PySem.W.Frag} {M : Addr → Prop} {H : Hp} {d : D} {a : Addr} (w : Ow K M H d a) : Rp K (fun b => M b ∧ b ≠ a) H d (.ref a) := by
  have x : Ext M H (fun b => M b ∧ b ≠ a) H := Ext.sub fun _ z => z.1
  cases d with
  | lst ds => obtain ⟨_, l, vs, e, q⟩ := w; exact .lst l (fun z => z.2 rfl) e (RpL.ext x q)
  | dct ds => obtain ⟨_, l, vs, e, q⟩ := w; exact .dct l (fun z => z.2 rfl) e (RpK.ext x q)
  | _ => exact w.elim

section
variable {X : Cx} {W : WX} {e : Expr} {es : List Expr}
/-- what is new is a value -/
theorem de_f {m : EM} (h : DF X W e m) : DE X W e m := by
  obtain ⟨t, ht, hs⟩ := h
  refine ⟨t, ht, fun B M H ρ σ Q r h => hs B M H ρ σ Q r (h.imp fun a ρ' M' H' b er x r' ⟨p, eb, w, hb, an, np⟩ k => ?_)⟩
  subst eb
  exact k _ H' _ (x.trans (Ext.sub fun _ z => z.1)) (r'.drop hb an np) w.rp
def rOf (m : EM) : RM := fun ρ => (m ρ).bind fun d ρ' => .ok (.val d) ρ'
theorem dr_e {m : EM} (h : DE X W e m) : DR X W e (rOf m) := by
  obtain ⟨t, ht, hs⟩ := h
  refine ⟨t, ht, fun B M H ρ σ Q r h => hs B M H ρ σ Q r (Post.seq h fun a ρ' M' H' b x r' q k => ?_)⟩
  exact k M' H' b Ext.refl r' q
theorem dr_f {m : EM} (h : DF X W e m) : DR X W e (rOf m) := dr_e (de_f h)
theorem dt_w {m : TM} (h : DW X W e m) : DT X W e m := by
  obtain ⟨t, ht, hs⟩ := h
  exact ⟨t, ht.pt, hs⟩

/-! ### names, constants -/
def rVar (i : Nat) : RM := fun ρ => match ρ[i]? with
  | some (.v d) => .ok (.val d) ρ
  | some (.o _) => .ok (.own i) ρ
  | some (.p _) => .ok (.own i) ρ
  | _ => .bad
def eVar (i : Nat) : EM := fun ρ => match ρ[i]? with
  | some (.v d) => .ok d ρ
  | _ => .bad
theorem dr_var {i : Nat} {x : Str} {pos : Pos} (h : PE X (.Name x pos) (tVar i)) : DR X W (.Name x pos) (rVar i) := by
  refine ⟨_, h, fun B M H ρ σ Q r h => ?_⟩
  unfold rVar at h
  cases e : ρ[i]? with
  | none => rw [e] at h; exact h.elim
  | some s =>
    rw [e] at h
    have q := r.slot i s e
    cases s with
    | no => exact h.elim
    | v d =>
      obtain ⟨v, e1, rp⟩ := q
      exact ⟨v, join_of e1, h M H v Ext.refl r rp⟩
    | o d =>
      obtain ⟨a, e1, _⟩ := q
      exact ⟨_, join_of e1, h M H _ Ext.refl r (join_of e1)⟩
    | p d =>
      obtain ⟨a, e1, _⟩ := q
      exact ⟨_, join_of e1, h M H _ Ext.refl r (join_of e1)⟩
theorem de_var {i : Nat} {x : Str} {pos : Pos} (h : PE X (.Name x pos) (tVar i)) : DE X W (.Name x pos) (eVar i) := by
  refine ⟨_, h, fun B M H ρ σ Q r h => ?_⟩
  unfold eVar at h
  cases e : ρ[i]? with
  | none => rw [e] at h; exact h.elim
  | some s =>
    rw [e] at h
    have q := r.slot i s e
    cases s with
    | v d =>
      obtain ⟨v, e1, rp⟩ := q
      exact ⟨v, join_of e1, h M H v Ext.refl r rp⟩
    | _ => exact h.elim
def eC (d : D) : EM := fun ρ => .ok d ρ
theorem de_c {d : D} {v : V} (h : PE X e (tC v)) (r : ∀ M H, Rp X.K M H d v) : DE X W e (eC d) :=
  ⟨_, h, fun B M H ρ σ Q rp h => h M H v Ext.refl rp (r M H)⟩
theorem de_int {i j pos} : DE X W (.Constant (.int i) j pos) (eC (.int i)) := de_c pe_int fun _ _ => .int i
theorem de_bl {i j pos} : DE X W (.Constant (.bool i) j pos) (eC (.bl i)) := de_c pe_bl fun _ _ => .bl i
theorem de_non {j pos} : DE X W (.Constant .none j pos) (eC .non) := de_c pe_non fun _ _ => .non
theorem de_str {x j pos} (g : decide (x.length ≤ sizeLine) && PySem.PyData.strOk x = true := by decide +kernel) : DE X W (.Constant (.str x) j pos) (eC (.str x)) := de_c pe_str fun _ _ => .str (by
  rw [Bool.and_eq_true] at g
  exact ⟨of_decide_eq_true g.1, by simpa using g.2⟩)

/-! ### what an operand reads -/
def Rq (K : PySem.W.Frag) (M : Addr → Prop) (H : Hp) (d : D) (v : V) : Prop := match d with
  | .lst ds => ds.length ≤ sizeLine ∧ ∃ a vs, v = .ref a ∧ H a = some (.lst vs) ∧ RpL K M H ds vs
  | .dct kvs => kvs.length ≤ sizeLine ∧ ∃ a ws, v = .ref a ∧ H a = some (.dK ws) ∧ RpK K M H kvs ws
  | d => Rp K M H d v
theorem Rp.rq {K : PySem.W.Frag} {M : Addr → Prop} {H : Hp} {d : D} {v : V} (h : Rp K M H d v) : Rq K M H d v := by
  cases d with
  | lst ds => cases h with
    | lst l n h1 h2 => exact ⟨l, _, _, rfl, h1, h2⟩
  | dct ds => cases h with
    | dct l n h1 h2 => exact ⟨l, _, _, rfl, h1, h2⟩
  | _ => exact h
theorem Ow.rq {K : PySem.W.Frag} {M : Addr → Prop} {H : Hp} {d : D} {a : Addr} (h : Ow K M H d a) : Rq K M H d (.ref a) := by
  cases d with
  | lst ds => obtain ⟨_, l, vs, e, q⟩ := h; exact ⟨l, a, vs, rfl, e, q⟩
  | dct ds => obtain ⟨_, l, vs, e, q⟩ := h; exact ⟨l, a, vs, rfl, e, q⟩
  | _ => exact h.elim
theorem RelR.rq {B : Base} {M M' : Addr → Prop} {H H' : Hp} {ρ ρ' : Env} {σ : St} {r : RV} {v : V} {d : D} (h : RelR X.K σ M H ρ r v) (x : Ext M H M' H') (rp : Rep X.K B M' H' ρ' σ) (g : r.get ρ' = some d) : Rq X.K M' H' d v := by
  cases r with
  | val d' =>
    cases g
    exact (Rp.ext x h).rq
  | own i =>
    have hv : σ[i]? = some (some v) := h
    cases e : ρ'[i]? with
    | none => simp only [RV.get, e] at g; cases g
    | some s =>
      have q := rp.slot i s e
      simp only [RV.get, e] at g
      cases s with
      | no => cases g
      | v d => cases g
      | o d' =>
        cases g
        obtain ⟨a, e1, w, _⟩ := q
        rw [of_join hv] at e1
        cases e1
        exact w.rq
      | p d' =>
        cases g
        obtain ⟨a, e1, w, _⟩ := q
        rw [of_join hv] at e1
        cases e1
        exact w.rq
/-- an operand's value -/
def rGet (x : RV) : EM := fun ρ => ofO (x.get ρ) ρ

/-! ### operators -/
/-- what an operator's rule asks is served by f (its answer a value) -/
def OpE (X : Cx) (f : D → D → Option D) (r : R2) : Prop :=
  ∀ (B : Base) (W : WX) (M : Addr → Prop) (H : Hp) (ρ : Env) (σ : St) (d e z : D) (x y : V) (Q : V → Hp → Prop), Rep X.K B M H ρ σ → Rq X.K M H d x → Rq X.K M H e y → f d e = some z →
    Post X B W (RelE X.K) M H σ (.ok z ρ) Q → r x y H Q
/-- .. its answer a new object -/
def OpF (X : Cx) (f : D → D → Option D) (r : R2) : Prop :=
  ∀ (B : Base) (W : WX) (M : Addr → Prop) (H : Hp) (ρ : Env) (σ : St) (d e z : D) (x y : V) (Q : V → Hp → Prop), Rep X.K B M H ρ σ → Rq X.K M H d x → Rq X.K M H e y → f d e = some z →
    Post X B W (RelF X.K B σ) M H σ (.ok z ρ) Q → r x y H Q
def eOp2 (f : D → D → Option D) (ma mb : RM) : EM := fun ρ => (ma ρ).bind fun x ρ1 => (mb ρ1).bind fun y ρ2 => (ofO (x.get ρ2) ρ2).bind fun d _ => (ofO (y.get ρ2) ρ2).bind fun e _ => ofO (f d e) ρ2
section
variable {a b c : Expr} {ma mb mc : RM} {f g : D → D → Option D} {r r' : R2} {op : Operator} {cop cop' : CmpOp} {pos : Pos}
theorem op2_sat {ta tb : TE} {R : Base → St → (Addr → Prop) → Hp → Env → D → V → Prop} (sa : Sat X W (fun _ σ => RelR X.K σ) ta ma) (sb : Sat X W (fun _ σ => RelR X.K σ) tb mb)
    (h : ∀ (B : Base) (M : Addr → Prop) (H : Hp) (ρ : Env) (σ : St) (d e z : D) (x y : V) (Q : V → Hp → Prop), Rep X.K B M H ρ σ → Rq X.K M H d x → Rq X.K M H e y → f d e = some z → Post X B W (R B σ) M H σ (.ok z ρ) Q → r x y H Q) :
    Sat X W R (tOp r ta tb) (eOp2 f ma mb) := by
  intro B M H ρ σ Q rp k
  refine sa B M H ρ σ _ rp (Post.seq k fun x ρ1 M1 H1 v x1 r1 q1 k1 => ?_)
  refine sb B M1 H1 ρ1 σ _ r1 (Post.seq k1 fun y ρ2 M2 H2 w x2 r2 q2 k2 => ?_)
  cases ex : x.get ρ2 with
  | none => rw [ex] at k2; exact k2.elim
  | some d =>
    rw [ex] at k2
    cases ey : y.get ρ2 with
    | none => rw [ey] at k2; exact k2.elim
    | some e =>
      rw [ey] at k2
      cases ez : f d e with
      | none => simp only [ofO, Res.bind, ez] at k2; exact k2.elim
      | some z =>
        simp only [ofO, Res.bind, ez] at k2
        exact h B M2 H2 ρ2 σ d e z v w Q r2 (q1.rq x2 r2 ex) (q2.rq Ext.refl r2 ey) ez k2
theorem de_op (hr : OpR X (binaryOp op) r) (ho : OpE X f r) (ha : DR X W a ma) (hb : DR X W b mb) : DE X W (.BinOp a op b pos) (eOp2 f ma mb) := by
  obtain ⟨ta, pa, sa⟩ := ha
  obtain ⟨tb, pb, sb⟩ := hb
  exact ⟨_, pe_op hr pa pb, op2_sat sa sb fun B M H ρ σ d e z x y Q h1 h2 h3 h4 h5 => ho B W M H ρ σ d e z x y Q h1 h2 h3 h4 h5⟩
theorem df_op (hr : OpR X (binaryOp op) r) (ho : OpF X f r) (ha : DR X W a ma) (hb : DR X W b mb) : DF X W (.BinOp a op b pos) (eOp2 f ma mb) := by
  obtain ⟨ta, pa, sa⟩ := ha
  obtain ⟨tb, pb, sb⟩ := hb
  exact ⟨_, pe_op hr pa pb, op2_sat sa sb fun B M H ρ σ d e z x y Q h1 h2 h3 h4 h5 => ho B W M H ρ σ d e z x y Q h1 h2 h3 h4 h5⟩
theorem de_cmp (hr : OpR X (compareOp cop) r) (ho : OpE X f r) (ha : DR X W a ma) (hb : DR X W b mb) (hm : behindInMarks cop b = false) : DE X W (.Compare a [cop] [b] pos) (eOp2 f ma mb) := by
  obtain ⟨ta, pa, sa⟩ := ha
  obtain ⟨tb, pb, sb⟩ := hb
  exact ⟨_, pe_cmpR hr pa pb hm, op2_sat sa sb fun B M H ρ σ d e z x y Q h1 h2 h3 h4 h5 => ho B W M H ρ σ d e z x y Q h1 h2 h3 h4 h5⟩
/-- a truth -/
def asB (d : D) (ρ : Env) : Res Bool := match d with
  | .bl b => .ok b ρ
  | _ => .bad
theorem asB_bl (b : Bool) (ρ : Env) : asB (.bl b) ρ = .ok b ρ := rfl
def tOfE (m : EM) : TM := fun ρ => (m ρ).bind asB
theorem test_sat {te : TE} {m : EM} (h : Sat X W (fun _ _ => RelE X.K) te m) : Sat X W (fun _ _ => RelT) (tTest te) (tOfE m) := by
  intro B M H ρ σ Q rp k
  refine h B M H ρ σ _ rp (Post.seq k fun d ρ1 M1 H1 v x1 r1 q1 k1 => ?_)
  cases d with
  | bl b =>
    cases q1
    exact ⟨b, rfl, k1 M1 H1 b Ext.refl r1 rfl⟩
  | _ => exact k1.elim
theorem dt_cmp (hr : OpR X (compareOp cop) r) (ho : OpE X f r) (ha : DR X W a ma) (hb : DR X W b mb) (hm : behindInMarks cop b = false) : DT X W (.Compare a [cop] [b] pos) (tOfE (eOp2 f ma mb)) := by
  obtain ⟨ta, pa, sa⟩ := ha
  obtain ⟨tb, pb, sb⟩ := hb
  exact ⟨_, pt_cmpR hr pa pb hm, test_sat (op2_sat sa sb fun B M H ρ σ d e z x y Q h1 h2 h3 h4 h5 => ho B W M H ρ σ d e z x y Q h1 h2 h3 h4 h5)⟩
theorem dt_e {m : EM} (h : DE X W a m) (he : ∀ whole, isTrue a X.env whole = (do let v ← whole; standAt a.pos; holding [v] (truthy v)) := by intro _; rfl) : DT X W a (tOfE m) := by
  obtain ⟨t, pt, s⟩ := h
  exact ⟨_, pt_val pt he, test_sat s⟩
/-- a op b op' c -/
def eChain (f g : D → D → Option D) (ma mb mc : RM) : EM := fun ρ => (ma ρ).bind fun x ρ1 => (mb ρ1).bind fun y ρ2 => (ofO (x.get ρ2) ρ2).bind fun d _ => (ofO (y.get ρ2) ρ2).bind fun e _ =>
  (ofO (f d e) ρ2).bind fun z _ => (asB z ρ2).bind fun k _ => if k then (mc ρ2).bind fun w ρ3 => (ofO (y.get ρ3) ρ3).bind fun e' _ => (ofO (w.get ρ3) ρ3).bind fun h _ => ofO (g e' h) ρ3 else .ok (.bl false) ρ2
theorem RelR.ext {M M' : Addr → Prop} {H H' : Hp} {ρ ρ' : Env} {σ : St} {r : RV} {v : V} (x : Ext M H M' H') (h : RelR X.K σ M H ρ r v) : RelR X.K σ M' H' ρ' r v := by
  cases r with
  | val d => exact Rp.ext x h
  | own i => exact h
theorem chain_sat {ta tb tc : TE} (ho : OpE X f r) (ho' : OpE X g r') (sa : Sat X W (fun _ σ => RelR X.K σ) ta ma) (sb : Sat X W (fun _ σ => RelR X.K σ) tb mb) (sc : Sat X W (fun _ σ => RelR X.K σ) tc mc) :
    Sat X W (fun _ _ => RelE X.K) (tChain r r' ta tb tc) (eChain f g ma mb mc) := by
  intro B M H ρ σ Q rp k
  refine sa B M H ρ σ _ rp (Post.seq k fun x ρ1 M1 H1 v x1 r1 q1 k1 => ?_)
  refine sb B M1 H1 ρ1 σ _ r1 (Post.seq k1 fun y ρ2 M2 H2 w x2 r2 q2 k2 => ?_)
  cases ex : x.get ρ2 with
  | none => rw [ex] at k2; exact k2.elim
  | some d =>
    rw [ex] at k2
    cases ey : y.get ρ2 with
    | none => rw [ey] at k2; exact k2.elim
    | some e =>
      rw [ey] at k2
      cases ez : f d e with
      | none => simp only [ofO, Res.bind, ez] at k2; exact k2.elim
      | some z =>
        simp only [ofO, Res.bind, ez] at k2
        refine ho B W M2 H2 ρ2 σ d e z v w _ r2 (q1.rq x2 r2 ex) (q2.rq Ext.refl r2 ey) ez fun M3 H3 zv x3 r3 q3 => ?_
        cases z with
        | bl kk =>
          cases q3
          refine ⟨kk, rfl, ?_⟩
          cases kk with
          | false =>
            rw [if_neg Bool.false_ne_true]
            exact k2 M3 H3 _ x3 r3 (.bl false)
          | true =>
            rw [if_pos rfl]
            have k3 : Post X B W (RelE X.K) M3 H3 σ ((mc ρ2).bind fun w ρ3 => (ofO (y.get ρ3) ρ3).bind fun e' _ => (ofO (w.get ρ3) ρ3).bind fun h _ => ofO (g e' h) ρ3) Q := Post.shift x3 k2
            refine sc B M3 H3 ρ2 σ _ r3 (Post.seq k3 fun u ρ4 M4 H4 uv x4 r4 q4 k4 => ?_)
            cases ey' : y.get ρ4 with
            | none => rw [ey'] at k4; exact k4.elim
            | some e' =>
              rw [ey'] at k4
              cases eu : u.get ρ4 with
              | none => simp only [ofO, Res.bind, eu] at k4; exact k4.elim
              | some h' =>
                simp only [ofO, Res.bind, eu] at k4
                cases eg : g e' h' with
                | none => rw [eg] at k4; exact k4.elim
                | some z' =>
                  rw [eg] at k4
                  exact ho' B W M4 H4 ρ4 σ e' h' z' w uv Q r4 (q2.rq (x3.trans x4) r4 ey') (q4.rq Ext.refl r4 eu) eg k4
        | _ => exact k2.elim
theorem de_chain (hr : OpR X (compareOp cop) r) (ho : OpE X f r) (hr' : OpR X (compareOp cop') r') (ho' : OpE X g r') (ha : DR X W a ma) (hb : DR X W b mb) (hc : DR X W c mc)
    (hm : lastMarks [cop, cop'] [b, c] = false := by with_unfolding_all rfl) : DE X W (.Compare a [cop, cop'] [b, c] pos) (eChain f g ma mb mc) := by
  obtain ⟨ta, pa, sa⟩ := ha
  obtain ⟨tb, pb, sb⟩ := hb
  obtain ⟨tc, pc, sc⟩ := hc
  exact ⟨_, pe_chain hr hr' pa pb pc hm, chain_sat ho ho' sa sb sc⟩
theorem dt_chain (hr : OpR X (compareOp cop) r) (ho : OpE X f r) (hr' : OpR X (compareOp cop') r') (ho' : OpE X g r') (ha : DR X W a ma) (hb : DR X W b mb) (hc : DR X W c mc)
    (hm : lastMarks [cop, cop'] [b, c] = false := by with_unfolding_all rfl) : DT X W (.Compare a [cop, cop'] [b, c] pos) (tOfE (eChain f g ma mb mc)) := by
  obtain ⟨ta, pa, sa⟩ := ha
  obtain ⟨tb, pb, sb⟩ := hb
  obtain ⟨tc, pc, sc⟩ := hc
  exact ⟨_, pt_chain hr hr' pa pb pc hm, test_sat (chain_sat ho ho' sa sb sc)⟩
end

/-! ### and, or, not, if .. else -/
section
variable {a b : Expr} {rest : List Expr} {ma mb : TM} {pos : Pos}
def tAndM (ma mb : TM) : TM := fun ρ => (ma ρ).bind fun k ρ1 => if k then mb ρ1 else .ok false ρ1
def tOrM (ma mb : TM) : TM := fun ρ => (ma ρ).bind fun k ρ1 => if k then .ok true ρ1 else mb ρ1
def tNotM (ma : TM) : TM := fun ρ => (ma ρ).bind fun k ρ1 => .ok (!k) ρ1
theorem dw_and1 (ha : DT X W a ma) : DW X W (.BoolOp .And [a] pos) ma := by
  obtain ⟨t, pt, s⟩ := ha
  exact ⟨t, pw_and1 pt, s⟩
theorem dw_or1 (ha : DT X W a ma) : DW X W (.BoolOp .Or [a] pos) ma := by
  obtain ⟨t, pt, s⟩ := ha
  exact ⟨t, pw_or1 pt, s⟩
theorem dw_and (ha : DT X W a ma) (hb : DW X W (.BoolOp .And (b :: rest) pos) mb) : DW X W (.BoolOp .And (a :: b :: rest) pos) (tAndM ma mb) := by
  obtain ⟨t, pt, s⟩ := ha
  obtain ⟨u, pu, s'⟩ := hb
  refine ⟨_, pw_and pt pu, fun B M H ρ σ Q rp k => s B M H ρ σ _ rp (Post.seq k fun x ρ1 M1 H1 v x1 r1 q1 k1 => ?_)⟩
  cases q1
  cases x with
  | true => exact iteT (s' B M1 H1 ρ1 σ Q r1 k1)
  | false => exact iteF (k1 M1 H1 false Ext.refl r1 rfl)
theorem dw_or (ha : DT X W a ma) (hb : DW X W (.BoolOp .Or (b :: rest) pos) mb) : DW X W (.BoolOp .Or (a :: b :: rest) pos) (tOrM ma mb) := by
  obtain ⟨t, pt, s⟩ := ha
  obtain ⟨u, pu, s'⟩ := hb
  refine ⟨_, pw_or pt pu, fun B M H ρ σ Q rp k => s B M H ρ σ _ rp (Post.seq k fun x ρ1 M1 H1 v x1 r1 q1 k1 => ?_)⟩
  cases q1
  cases x with
  | true => exact iteT (k1 M1 H1 true Ext.refl r1 rfl)
  | false => exact iteF (s' B M1 H1 ρ1 σ Q r1 k1)
theorem dt_not (ha : DT X W a ma) : DT X W (.UnaryOp .Not a pos) (tNotM ma) := by
  obtain ⟨t, pt, s⟩ := ha
  refine ⟨_, pt_not pt, fun B M H ρ σ Q rp k => s B M H ρ σ _ rp (Post.seq k fun x ρ1 M1 H1 v x1 r1 q1 k1 => ?_)⟩
  cases q1
  exact k1 M1 H1 _ Ext.refl r1 rfl
def eIf (mc : TM) (ma mb : EM) : EM := fun ρ => (mc ρ).bind fun k ρ1 => if k then ma ρ1 else mb ρ1
theorem de_if {c : Expr} {mc : TM} {ea eb : EM} (hc : DT X W c mc) (ha : DE X W a ea) (hb : DE X W b eb) : DE X W (.IfExp c a b pos) (eIf mc ea eb) := by
  obtain ⟨t, pt, s⟩ := hc
  obtain ⟨u, pu, s1⟩ := ha
  obtain ⟨u', pu', s2⟩ := hb
  refine ⟨_, pe_ifExp pt pu pu', fun B M H ρ σ Q rp k => s B M H ρ σ _ rp (Post.seq k fun x ρ1 M1 H1 v x1 r1 q1 k1 => ?_)⟩
  cases q1
  cases x with
  | true => exact iteT (s1 B M1 H1 ρ1 σ Q r1 k1)
  | false => exact iteF (s2 B M1 H1 ρ1 σ Q r1 k1)
/-- truth of a value -/
def truthy : D → Option Bool
  | .non => some false
  | .bl b => some b
  | .int i => some (i != 0)
  | .str x => some ((x.length : Int) != 0)
  | .tup xs => some (!xs.isEmpty)
  | .lst xs => some (!xs.isEmpty)
  | .dct xs => some (!xs.isEmpty)
  | _ => none
theorem truV_of {M : Addr → Prop} {H : Hp} {d : D} {v : V} {k : Bool} (h : Rq X.K M H d v) (e : truthy d = some k) : TruV X.K v H k := by
  cases d with
  | non => cases h; cases e; rfl
  | bl b => cases h; cases e; rfl
  | int i => cases h; cases e; rfl
  | str x => cases h with
    | str g => cases e; exact ⟨g.1, rfl⟩
  | tup xs => cases h with
    | tup l h1 h2 =>
      cases e
      refine .inr (.inl ⟨_, h1, ?_⟩)
      cases h2 <;> rfl
  | lst xs =>
    obtain ⟨l, a, vs, rfl, h1, h2⟩ := h
    cases e
    refine .inl ⟨_, SqL.of h1, ?_⟩
    cases h2 <;> rfl
  | dct xs =>
    obtain ⟨l, a, vs, rfl, h1, h2⟩ := h
    cases e
    refine .inr (.inr ⟨_, h1, ?_⟩)
    cases h2 <;> rfl
  | _ => cases e
def eAnd (ma mb : EM) : EM := fun ρ => (ma ρ).bind fun d ρ1 => (ofO (truthy d) ρ1).bind fun k _ => if k then mb ρ1 else .ok d ρ1
def eOr (ma mb : EM) : EM := fun ρ => (ma ρ).bind fun d ρ1 => (ofO (truthy d) ρ1).bind fun k _ => if k then .ok d ρ1 else mb ρ1
def eNot (ma : EM) : EM := fun ρ => (ma ρ).bind fun d ρ1 => (ofO (truthy d) ρ1).bind fun k _ => .ok (.bl (!k)) ρ1
theorem de_one {op} {m : EM} (h : DE X W a m) : DE X W (.BoolOp op [a] pos) m := by
  obtain ⟨t, pt, s⟩ := h
  exact ⟨t, pe_one pt, s⟩
variable {ea eb : EM}
end
end
end NV

set_option Elab.async false
set_option linter.all false
set_option maxRecDepth 100000
set_option maxHeartbeats 4000000
/-! Core3: the operators and the built-in functions. -/
namespace NV
open PySem PySem.Spec PyProof.Rows L2

structure Cd (X : Cx) : Prop where
  calm : X.calm = true
  units : X.A.units + 64 < cLine
theorem Cd.blk {X : Cx} (c : Cd X) {s : Shared} {H : Hp} {scope : Scope} {cenv : PySem.Env} {fp : List Addr} : Cd (X.blk s H scope cenv fp) := ⟨c.calm, c.units⟩

/-! ### a scalar answer, a new object -/
section
variable {X : Cx} {B : Base} {W : WX} {M : Addr → Prop} {H : Hp} {ρ : Env} {σ : St} {z : D} {Q : V → Hp → Prop}
theorem post_v (h : Post X B W (RelE X.K) M H σ (.ok z ρ) Q) (r : Rep X.K B M H ρ σ) {v : V} (q : Rp X.K M H z v) : Q v H := h M H v Ext.refl r q
/-- a new tuple -/
theorem post_t {ds : List D} {vs : List V} {p : Addr} (h : Post X B W (RelE X.K) M H σ (.ok (.tup ds) ρ) Q) (r : Rep X.K B M H ρ σ) (q : RpL X.K M H ds vs) (hl : ds.length ≤ sizeLine) (hp : H p = none) : Q (.ref p) (upd H p (.tup vs)) :=
  h M _ _ (Ext.new hp) (r.alloc hp) (.tup hl (SqT.of upd_same) (q.ext (Ext.new hp)))
/-- a new list, as a value -/
theorem post_l {ds : List D} {vs : List V} {p : Addr} (h : Post X B W (RelE X.K) M H σ (.ok (.lst ds) ρ) Q) (r : Rep X.K B M H ρ σ) (q : RpL X.K M H ds vs) (hl : ds.length ≤ sizeLine) (hp : H p = none) : Q (.ref p) (upd H p (.lst vs)) :=
  h M _ _ (Ext.new hp) (r.alloc hp) (.lst hl (fun m => r.trk p m hp) upd_same (q.ext (Ext.new hp)))
theorem Rep.anon_new (r : Rep X.K B M H ρ σ) {p : Addr} (hp : H p = none) : Anon ρ σ p := fun i s hi ho hv => r.own_ne hi ho hv hp rfl
theorem Rep.base_new (r : Rep X.K B M H ρ σ) {p : Addr} (hp : H p = none) : B.H p = none := by
  cases q : B.H p with
  | none => rfl
  | some o => exact absurd hp (r.old p (by rw [q]; simp))
theorem Rep.pr_new (r : Rep X.K B M H ρ σ) {p : Addr} (hp : H p = none) : ∀ q ∈ B.pr, q.1 ≠ p := fun q hq => ne_of_none (r.pr q hq).1 hp
/-- a new list, owned -/
theorem post_o {ds : List D} {vs : List V} {p : Addr} (h : Post X B W (RelF X.K B σ) M H σ (.ok (.lst ds) ρ) Q) (r : Rep X.K B M H ρ σ) (q : RpL X.K M H ds vs) (hl : ds.length ≤ sizeLine) (hp : H p = none) : Q (.ref p) (upd H p (.lst vs)) :=
  h _ _ _ (Ext.newO hp) (r.allocO hp) ⟨p, rfl, ⟨.inr rfl, hl, vs, upd_same, q.ext (Ext.newO hp)⟩, r.base_new hp, r.anon_new hp, r.pr_new hp⟩
theorem post_od {ds : List (Key × D)} {vs : List (Key × V)} {p : Addr} (h : Post X B W (RelF X.K B σ) M H σ (.ok (.dct ds) ρ) Q) (r : Rep X.K B M H ρ σ) (q : RpK X.K M H ds vs) (hl : ds.length ≤ sizeLine) (hp : H p = none) : Q (.ref p) (upd H p (.dK vs)) :=
  h _ _ _ (Ext.newO hp) (r.allocO hp) ⟨p, rfl, ⟨.inr rfl, hl, vs, upd_same, q.ext (Ext.newO hp)⟩, r.base_new hp, r.anon_new hp, r.pr_new hp⟩
theorem post_d {ds : List (Key × D)} {vs : List (Key × V)} {p : Addr} (h : Post X B W (RelE X.K) M H σ (.ok (.dct ds) ρ) Q) (r : Rep X.K B M H ρ σ) (q : RpK X.K M H ds vs) (hl : ds.length ≤ sizeLine) (hp : H p = none) : Q (.ref p) (upd H p (.dK vs)) :=
  h M _ _ (Ext.new hp) (r.alloc hp) (.dct hl (fun m => r.trk p m hp) upd_same (q.ext (Ext.new hp)))
end

theorem rq_int {K : PySem.W.Frag} {M : Addr → Prop} {H : Hp} {i : Int} {v : V} (h : Rq K M H (.int i) v) : v = .int i := by cases h; rfl
theorem rq_bl {K : PySem.W.Frag} {M : Addr → Prop} {H : Hp} {i : Bool} {v : V} (h : Rq K M H (.bl i) v) : v = .bl i := by cases h; rfl
theorem rq_non {K : PySem.W.Frag} {M : Addr → Prop} {H : Hp} {v : V} (h : Rq K M H .non v) : v = .non := by cases h; rfl
theorem rq_str {K : PySem.W.Frag} {M : Addr → Prop} {H : Hp} {x : Str} {v : V} (h : Rq K M H (.str x) v) : v = .str x ∧ StrG x := by cases h with | str g => exact ⟨rfl, g⟩
theorem rq_tup {K : PySem.W.Frag} {M : Addr → Prop} {H : Hp} {ds : List D} {v : V} (h : Rq K M H (.tup ds) v) : ∃ a vs, v = .ref a ∧ ds.length ≤ sizeLine ∧ SqT K H a vs ∧ RpL K M H ds vs := by cases h with | tup l h1 h2 => exact ⟨_, _, rfl, l, h1, h2⟩
theorem rq_lst {K : PySem.W.Frag} {M : Addr → Prop} {H : Hp} {ds : List D} {v : V} (h : Rq K M H (.lst ds) v) : ∃ a vs, v = .ref a ∧ ds.length ≤ sizeLine ∧ H a = some (.lst vs) ∧ RpL K M H ds vs := by
  obtain ⟨l, a, vs, e, h1, h2⟩ := h
  exact ⟨a, vs, e, l, h1, h2⟩
theorem rq_dct {K : PySem.W.Frag} {M : Addr → Prop} {H : Hp} {ds : List (Key × D)} {v : V} (h : Rq K M H (.dct ds) v) : ∃ a vs, v = .ref a ∧ ds.length ≤ sizeLine ∧ H a = some (.dK vs) ∧ RpK K M H ds vs := by
  obtain ⟨l, a, vs, e, h1, h2⟩ := h
  exact ⟨a, vs, e, l, h1, h2⟩
theorem rq_scr {K : PySem.W.Frag} {M : Addr → Prop} {H : Hp} {xs : List Int} {v : V} (h : Rq K M H (.scr xs) v) : ∃ a, v = .ref a ∧ xs.length ≤ sizeLine ∧ SqS K H a xs := by cases h with | scr l h1 => exact ⟨_, rfl, l, h1⟩

/-! ### arithmetic -/
def addD : D → D → Option D
  | .int i, .int j => some (.int (i + j))
  | .str a, .str b => if a.length + b.length ≤ sizeLine then some (.str (a ++ b)) else none
  | .tup a, .tup b => if a.length + b.length ≤ sizeLine then some (.tup (a ++ b)) else none
  | .lst a, .lst b => if a.length + b.length ≤ sizeLine then some (.lst (a ++ b)) else none
  | _, _ => none
theorem strG_append {a b : Str} (ha : StrG a) (hb : StrG b) (h : a.length + b.length ≤ sizeLine) : StrG (a ++ b) := by
  refine ⟨?_, ?_⟩
  · show (a.cps ++ b.cps).size ≤ sizeLine
    rw [Array.size_append]
    exact h
  · have h1 := ha.2
    have h2 := hb.2
    unfold PySem.PyData.strOk at h1 h2 ⊢
    show (a.cps ++ b.cps).all _ = true
    rw [Array.all_append, h1, h2]
    rfl
def rAddS : R2 := fun x y H Q => ∃ i j, x = .str i ∧ y = .str j ∧ i.length + j.length ≤ sizeLine ∧ Q (.str (i ++ j)) H
abbrev rAddI : R2 := rI0 fun i j => .int (i + j)
def rAdd4 (K : PySem.W.Frag) : R2 := fun x y H Q => rAddI x y H Q ∨ (rAddS x y H Q ∨ (rCatA K x y H Q ∨ rCat x y H Q))
section
variable {X : Cx}
theorem op_add4 : OpR X (binaryOp .Add) (rAdd4 X.K) := op_add.or (OpR.or (r := rAddS) op_add_str (op_catA.or op_cat))
theorem o_add : OpE X addD (rAdd4 X.K) := by
  intro B W M H ρ σ d e z x y Q rp hx hy hf h
  unfold addD at hf
  split at hf
  · cases hf
    exact .inl ⟨_, _, rq_int hx, rq_int hy, post_v h rp (.int _)⟩
  · split at hf
    · rename_i hl
      cases hf
      obtain ⟨e1, g1⟩ := rq_str hx
      obtain ⟨e2, g2⟩ := rq_str hy
      exact .inr (.inl ⟨_, _, e1, e2, hl, post_v h rp (.str (strG_append g1 g2 hl))⟩)
    · cases hf
  · split at hf
    · rename_i hl
      cases hf
      obtain ⟨a, vs, e1, l1, t1, r1⟩ := rq_tup hx
      obtain ⟨b, ws, e2, l2, t2, r2⟩ := rq_tup hy
      subst e1 e2
      refine .inr (.inr (.inl ⟨a, b, vs, ws, rfl, rfl, t1, t2, by rw [← r1.length, ← r2.length]; exact hl, fun e => ?_, fun _ e => ?_, fun _ _ p hp => ?_⟩))
      · subst e
        cases r1
        exact post_v h rp (.tup (by simpa using hl) t2 r2)
      · subst e
        cases r2
        exact post_v h rp (.tup (by simpa using hl) t1 (by simpa using r1))
      · exact post_t h rp (r1.append r2) (by simpa using hl) hp
    · cases hf
  · split at hf
    · rename_i hl
      cases hf
      obtain ⟨a, vs, e1, l1, t1, r1⟩ := rq_lst hx
      obtain ⟨b, ws, e2, l2, t2, r2⟩ := rq_lst hy
      subst e1 e2
      exact .inr (.inr (.inr ⟨a, b, vs, ws, rfl, rfl, t1, t2, by rw [← r1.length, ← r2.length]; exact hl, fun p hp => post_l h rp (r1.append r2) (by simpa using hl) hp⟩))
    · cases hf
  · cases hf
/-- two lists -/
def catD : D → D → Option D
  | .lst a, .lst b => if a.length + b.length ≤ sizeLine then some (.lst (a ++ b)) else none
  | _, _ => none
theorem o_cat : OpF X catD rCat := by
  intro B W M H ρ σ d e z x y Q rp hx hy hf h
  unfold catD at hf
  split at hf
  · split at hf
    · rename_i hl
      cases hf
      obtain ⟨a, vs, e1, l1, t1, r1⟩ := rq_lst hx
      obtain ⟨b, ws, e2, l2, t2, r2⟩ := rq_lst hy
      subst e1 e2
      exact ⟨a, b, vs, ws, rfl, rfl, t1, t2, by rw [← r1.length, ← r2.length]; exact hl, fun p hp => post_o h rp (r1.append r2) (by simpa using hl) hp⟩
    · cases hf
  · cases hf
/-- ints in, under a condition, a scalar out -/
theorem o_int {C : Int → Int → Prop} [∀ i j, Decidable (C i j)] {g : Int → Int → V} {g' : Int → Int → D} (hg : ∀ i j K M H, Rp K M H (g' i j) (g i j)) :
    OpE X (fun d e => match d, e with
      | .int i, .int j => if C i j then some (g' i j) else none
      | _, _ => none) (rI C g) := by
  intro B W M H ρ σ d e z x y Q rp hx hy hf h
  dsimp only at hf
  split at hf
  · split at hf
    · rename_i hc
      cases hf
      exact ⟨_, _, rq_int hx, rq_int hy, hc, post_v h rp (hg _ _ _ _ _)⟩
    · cases hf
  · cases hf
theorem o_int0 {g : Int → Int → V} {g' : Int → Int → D} (hg : ∀ i j K M H, Rp K M H (g' i j) (g i j)) :
    OpE X (fun d e => match d, e with
      | .int i, .int j => some (g' i j)
      | _, _ => none) (rI0 g) := by
  intro B W M H ρ σ d e z x y Q rp hx hy hf h
  dsimp only at hf
  split at hf
  · cases hf
    exact ⟨_, _, rq_int hx, rq_int hy, post_v h rp (hg _ _ _ _ _)⟩
  · cases hf
def i2 (g' : Int → Int → D) : D → D → Option D := fun d e => match d, e with
  | .int i, .int j => some (g' i j)
  | _, _ => none
def i2c (C : Int → Int → Prop) [∀ i j, Decidable (C i j)] (g' : Int → Int → D) : D → D → Option D := fun d e => match d, e with
  | .int i, .int j => if C i j then some (g' i j) else none
  | _, _ => none
def subD := i2 fun i j => .int (i - j)
theorem o_sub : OpE X subD (rI0 fun i j => .int (i - j)) := o_int0 fun _ _ _ _ _ => .int _
instance (i j : Int) : Decidable (CMul i j) := by unfold CMul; infer_instance
instance (i j : Int) : Decidable (CDiv i j) := by unfold CDiv; infer_instance
instance (i j : Int) : Decidable (CPow i j) := by unfold CPow; infer_instance
def fdivD := i2c CDiv fun i j => .int (i / j)
theorem o_fdiv : OpE X fdivD (rI CDiv fun i j => .int (i / j)) := o_int fun _ _ _ _ _ => .int _
def modD := i2c (fun _ j => 0 < j) fun i j => .int (i % j)
theorem o_mod : OpE X modD (rI (fun _ j => 0 < j) fun i j => .int (i % j)) := o_int fun _ _ _ _ _ => .int _
def powD := i2c CPow fun i j => .int (i ^ j.toNat)
theorem o_pow : OpE X powD (rI CPow fun i j => .int (i ^ j.toNat)) := o_int fun _ _ _ _ _ => .int _
def shrD := i2c (fun _ j => 0 ≤ j) fun i j => .int (i / 2 ^ j.toNat)
theorem o_shr : OpE X shrD (rI (fun _ j => 0 ≤ j) fun i j => .int (i / 2 ^ j.toNat)) := o_int fun _ _ _ _ _ => .int _
def andD := i2 fun i j => .int (Builtin.bitAnd i j)
theorem o_and : OpE X andD (rI0 fun i j => .int (Builtin.bitAnd i j)) := o_int0 fun _ _ _ _ _ => .int _
def ltD := i2 fun i j => .bl (decide (i < j))
theorem o_lt : OpE X ltD (rI0 fun i j => .bl (decide (i < j))) := o_int0 fun _ _ _ _ _ => .bl _
def leD := i2 fun i j => .bl (decide (i ≤ j))
theorem o_le : OpE X leD (rI0 fun i j => .bl (decide (i ≤ j))) := o_int0 fun _ _ _ _ _ => .bl _
def gtD := i2 fun i j => .bl (decide (j < i))
theorem o_gt : OpE X gtD (rI0 fun i j => .bl (decide (j < i))) := o_int0 fun _ _ _ _ _ => .bl _
def geD := i2 fun i j => .bl (decide (j ≤ i))
theorem o_ge : OpE X geD (rI0 fun i j => .bl (decide (j ≤ i))) := o_int0 fun _ _ _ _ _ => .bl _
/-- int * int, list * int -/
def repL (xs : List D) (k : Int) : List D := (List.replicate k.toNat xs).flatten
def mulD : D → D → Option D
  | .int i, .int j => if CMul i j then some (.int (i * j)) else none
  | .lst xs, .int k => if -(2 ^ 63) ≤ k ∧ k < 2 ^ 63 ∧ xs.length * k.toNat ≤ sizeLine then some (.lst (repL xs k)) else none
  | _, _ => none
def rMul2 : R2 := fun x y H Q => rI CMul (fun i j => .int (i * j)) x y H Q ∨ rRep x y H Q
theorem op_mul2 : OpR X (binaryOp .Mult) rMul2 := op_mul.or op_rep
theorem RpL.rep {K : PySem.W.Frag} {M : Addr → Prop} {H : Hp} {ds : List D} {vs : List V} (h : RpL K M H ds vs) : ∀ k : Nat, RpL K M H (List.replicate k ds).flatten (List.replicate k vs).flatten
  | 0 => .nil
  | k + 1 => by
    rw [List.replicate_succ, List.replicate_succ, List.flatten_cons, List.flatten_cons]
    exact h.append (RpL.rep h k)
theorem repL_length (xs : List D) (k : Int) : (repL xs k).length = xs.length * k.toNat := by
  unfold repL
  rw [List.length_flatten, List.map_replicate, List.sum_replicate_nat, Nat.mul_comm]
end
end NV

set_option Elab.async false
set_option linter.all false
set_option maxRecDepth 100000
set_option maxHeartbeats 4000000
/-! Core3b: equality, in, is. -/
namespace NV
open PySem PySem.Spec PyProof.Rows L2

section
variable {X : Cx}
theorem o_mul : OpE X mulD rMul2 := by
  intro B W M H ρ σ d e z x y Q rp hx hy hf h
  unfold mulD at hf
  split at hf
  · split at hf
    · rename_i hc
      cases hf
      exact .inl ⟨_, _, rq_int hx, rq_int hy, hc, post_v h rp (.int _)⟩
    · cases hf
  · split at hf
    · rename_i hc
      cases hf
      obtain ⟨a, vs, e1, l1, t1, r1⟩ := rq_lst hx
      exact .inr ⟨a, _, vs, e1, rq_int hy, t1, hc.1, hc.2.1, by rw [← r1.length]; exact hc.2.2, fun p hp => post_l h rp (r1.rep _) (by rw [repL_length]; exact hc.2.2) hp⟩
    · cases hf
  · cases hf
def repD : D → D → Option D
  | .lst xs, .int k => if -(2 ^ 63) ≤ k ∧ k < 2 ^ 63 ∧ xs.length * k.toNat ≤ sizeLine then some (.lst (repL xs k)) else none
  | _, _ => none
theorem o_rep : OpF X repD rRep := by
  intro B W M H ρ σ d e z x y Q rp hx hy hf h
  unfold repD at hf
  split at hf
  · split at hf
    · rename_i hc
      cases hf
      obtain ⟨a, vs, e1, l1, t1, r1⟩ := rq_lst hx
      exact ⟨a, _, vs, e1, rq_int hy, t1, hc.1, hc.2.1, by rw [← r1.length]; exact hc.2.2, fun p hp => post_o h rp (r1.rep _) (by rw [repL_length]; exact hc.2.2) hp⟩
    · cases hf
  · cases hf
end

/-! ### == -/
mutual
def toPy : D → PyData
  | .non => .none
  | .bl b => .bool b
  | .int i => .int i
  | .str x => .str x
  | .tup ds => .tuple (toPyL ds)
  | .lst ds => .list (toPyL ds)
  | .dct _ => .dict []
  | .exn _ _ => .dict []
  | .scr _ => .dict []
def toPyL : List D → List PyData
  | [] => []
  | d :: ds => toPy d :: toPyL ds
end
mutual
/-- data that == is told of, at most n deep -/
def okD : Nat → D → Bool
  | _, .non => true
  | _, .bl _ => true
  | _, .int _ => true
  | _, .str _ => true
  | 0, .tup _ => false
  | n + 1, .tup ds => okL n ds
  | 0, .lst _ => false
  | n + 1, .lst ds => okL n ds
  | _, .dct _ => false
  | _, .exn _ _ => false
  | _, .scr _ => false
def okL : Nat → List D → Bool
  | _, [] => true
  | n, d :: ds => okD n d && okL n ds
end
theorem toPyL_map : ∀ ds : List D, toPyL ds = ds.map toPy
  | [] => by rw [toPyL]; rfl
  | d :: ds => by rw [toPyL, toPyL_map ds]; rfl
mutual
theorem okD.depth : ∀ (n : Nat) (d : D), okD n d = true → (toPy d).depth ≤ n
  | n, .non, _ => by rw [toPy, PyData.depth] <;> first | exact Nat.zero_le _ | (intros; intro z; cases z)
  | n, .bl _, _ => by rw [toPy, PyData.depth] <;> first | exact Nat.zero_le _ | (intros; intro z; cases z)
  | n, .int _, _ => by rw [toPy, PyData.depth] <;> first | exact Nat.zero_le _ | (intros; intro z; cases z)
  | n, .str _, _ => by rw [toPy, PyData.depth] <;> first | exact Nat.zero_le _ | (intros; intro z; cases z)
  | 0, .tup _, h => by rw [okD] at h; cases h
  | n + 1, .tup ds, h => by
    rw [okD] at h
    rw [toPy, PyData.depth]
    exact Nat.succ_le_succ (okL.depth n ds h)
  | 0, .lst _, h => by rw [okD] at h; cases h
  | n + 1, .lst ds, h => by
    rw [okD] at h
    rw [toPy, PyData.depth]
    exact Nat.succ_le_succ (okL.depth n ds h)
  | n, .dct _, h => by rw [okD] at h; cases h
  | n, .exn _ _, h => by rw [okD] at h; cases h
  | n, .scr _, h => by rw [okD] at h; cases h
theorem okL.depth : ∀ (n : Nat) (ds : List D), okL n ds = true → PyData.depthAll (toPyL ds) ≤ n
  | n, [], _ => by rw [toPyL, PyData.depthAll]; exact Nat.zero_le _
  | n, d :: ds, h => by
    rw [okL, Bool.and_eq_true] at h
    rw [toPyL, PyData.depthAll]
    exact Nat.max_le.mpr ⟨okD.depth n d h.1, okL.depth n ds h.2⟩
end
section
variable {K : PySem.W.Frag} {M : Addr → Prop} {H : Hp}
mutual
theorem Rp.dp : ∀ (n : Nat) {d : D} {v : V}, okD n d = true → Rp K M H d v → Dp K H v (toPy d) ∧ (toPy d).canLay0 = true
  | n, .non, _, _, r => by cases r; rw [toPy]; exact ⟨.non, by rw [PyData.canLay0]⟩
  | n, .bl _, _, _, r => by cases r; rw [toPy]; exact ⟨.bl _, by rw [PyData.canLay0]⟩
  | n, .int _, _, _, r => by cases r; rw [toPy]; exact ⟨.int _, by rw [PyData.canLay0]⟩
  | n, .str _, _, _, r => by cases r with | str g => rw [toPy]; exact ⟨.str _, by rw [PyData.canLay0]; exact g.2⟩
  | 0, .tup _, _, h, _ => by rw [okD] at h; cases h
  | n + 1, .tup ds, _, h, r => by
    rw [okD] at h
    cases r with
    | tup l h1 h2 =>
      rw [toPy]
      obtain ⟨a, b⟩ := RpL.dp n h h2
      exact ⟨.tup h1 a, by rw [PyData.canLay0]; exact b⟩
  | 0, .lst _, _, h, _ => by rw [okD] at h; cases h
  | n + 1, .lst ds, _, h, r => by
    rw [okD] at h
    cases r with
    | lst l m h1 h2 =>
      rw [toPy]
      obtain ⟨a, b⟩ := RpL.dp n h h2
      exact ⟨.lst (SqL.of h1) a, by rw [PyData.canLay0]; exact b⟩
  | n, .dct _, _, h, _ => by rw [okD] at h; cases h
  | n, .exn _ _, _, h, _ => by rw [okD] at h; cases h
  | n, .scr _, _, h, _ => by rw [okD] at h; cases h
theorem RpL.dp : ∀ (n : Nat) {ds : List D} {vs : List V}, okL n ds = true → RpL K M H ds vs → DpAll K H vs (toPyL ds) ∧ PyData.canLayAll0 (toPyL ds) = true
  | n, [], _, _, r => by cases r; rw [toPyL]; exact ⟨.nil, by rw [PyData.canLayAll0]⟩
  | n, d :: ds, _, h, r => by
    rw [okL, Bool.and_eq_true] at h
    cases r with
    | cons r1 r2 =>
      obtain ⟨a1, b1⟩ := Rp.dp n h.1 r1
      obtain ⟨a2, b2⟩ := RpL.dp n h.2 r2
      rw [toPyL]
      exact ⟨.cons a1 a2, by rw [PyData.canLayAll0, b1, b2]; rfl⟩
end
theorem Rq.dp {n : Nat} {d : D} {v : V} (h : okD n d = true) (r : Rq K M H d v) : Dp K H v (toPy d) ∧ (toPy d).canLay0 = true := by
  cases d with
  | lst ds =>
    obtain ⟨l, a, vs, rfl, h1, h2⟩ := r
    cases n with
    | zero => rw [okD] at h; cases h
    | succ n =>
      rw [okD] at h
      obtain ⟨a, b⟩ := RpL.dp n h h2
      rw [toPy]
      exact ⟨.lst (SqL.of h1) a, by rw [PyData.canLay0]; exact b⟩
  | dct ds => rw [okD] at h; cases h
  | _ => exact Rp.dp n h r
end
def eqD (d e : D) : Bool := PyData.eqv (toPy d) (toPy e)
def eqO (d e : D) : Option D := match d, e with
  | .tup ds, .tup [] => some (.bl ds.isEmpty)
  | d, e => if okD 60 d = true ∧ okD 60 e = true then some (.bl (eqD d e)) else none
def neO (d e : D) : Option D := match d, e with
  | .tup ds, .tup [] => some (.bl (!ds.isEmpty))
  | d, e => if okD 60 d = true ∧ okD 60 e = true then some (.bl (!eqD d e)) else none
section
variable {X : Cx}
/-- a tuple and an empty one -/
def rEq0 (K : PySem.W.Frag) : R2 := fun x y H Q => ∃ a b xs, x = .ref a ∧ y = .ref b ∧ SqT K H a xs ∧ SqT K H b [] ∧ Q (.bl xs.isEmpty) H
def rNe0 (K : PySem.W.Frag) : R2 := fun x y H Q => ∃ a b xs, x = .ref a ∧ y = .ref b ∧ SqT K H a xs ∧ SqT K H b [] ∧ Q (.bl (!xs.isEmpty)) H
theorem op_eq0 (c : Cd X) : OpR X (compareOp .Eq) (rEq0 X.K) := by
  intro pins s σ H x y v u Q I rx ry h
  obtain ⟨a, b, xs, rfl, rfl, h1, h2, q⟩ := h
  cases rx
  cases ry
  obtain ⟨its, r1, t1, _⟩ := I.tuple h1
  obtain ⟨its2, r2, t2, _⟩ := I.tuple h2
  cases r2
  refine SeqAt.eq_tupleAt (e := fun _ => true) t1 t2 (Nat.lt_of_le_of_lt (Nat.le_add_right _ _) c.units) (fun j _ h2 => absurd h2 (by simp)) (fin_bl I q ?_)
  cases r1 <;> simp
theorem op_ne0 (c : Cd X) : OpR X (compareOp .NotEq) (rNe0 X.K) := by
  intro pins s σ H x y v u Q I rx ry h
  obtain ⟨a, b, xs, rfl, rfl, h1, h2, q⟩ := h
  cases rx
  cases ry
  obtain ⟨its, r1, t1, _⟩ := I.tuple h1
  obtain ⟨its2, r2, t2, _⟩ := I.tuple h2
  cases r2
  refine (SeqAt.RcNeAt.tuples (e := fun _ => true) t1 t2 (Nat.lt_of_le_of_lt (Nat.le_add_right _ _) c.units) (fun j _ h2 => absurd h2 (by simp))) _ _ _ _ (fin_bl I q ?_)
  cases r1 <;> simp
def rEq2 (K : PySem.W.Frag) : R2 := fun x y H Q => rEqD K x y H Q ∨ rEq0 K x y H Q
def rNe2 (K : PySem.W.Frag) : R2 := fun x y H Q => rNeD K x y H Q ∨ rNe0 K x y H Q
theorem op_eq2 (c : Cd X) : OpR X (compareOp .Eq) (rEq2 X.K) := (op_eqD c.units).or (op_eq0 c)
theorem op_ne2 (c : Cd X) : OpR X (compareOp .NotEq) (rNe2 X.K) := (op_neD c.units).or (op_ne0 c)
theorem shaped_of {n : Nat} {d : D} (h : okD n d = true) (hn : n ≤ 64) (c : (toPy d).canLay0 = true) : SeqAt.shaped (toPy d) = true := by
  unfold SeqAt.shaped
  rw [c, decide_eq_true (Nat.le_trans (okD.depth n d h) hn)]
  rfl
theorem o_eq : OpE X eqO (rEq2 X.K) := by
  intro B W M H ρ σ d e z x y Q rp hx hy hf h
  unfold eqO at hf
  split at hf
  · cases hf
    obtain ⟨a, vs, e1, l1, t1, r1⟩ := rq_tup hx
    obtain ⟨b, ws, e2, l2, t2, r2⟩ := rq_tup hy
    cases r2
    refine .inr ⟨a, b, vs, e1, e2, t1, t2, ?_⟩
    have e : ∀ {ds : List D}, RpL X.K M H ds vs → vs.isEmpty = ds.isEmpty := fun r => by cases r <;> rfl
    rw [e r1]
    exact post_v h rp (.bl _)
  · split at hf
    · rename_i hc
      cases hf
      obtain ⟨d1, c1⟩ := hx.dp hc.1
      obtain ⟨d2, c2⟩ := hy.dp hc.2
      exact .inl ⟨_, _, d1, d2, shaped_of hc.1 (by decide) c1, shaped_of hc.2 (by decide) c2, post_v h rp (.bl _)⟩
    · cases hf
theorem o_ne : OpE X neO (rNe2 X.K) := by
  intro B W M H ρ σ d e z x y Q rp hx hy hf h
  unfold neO at hf
  split at hf
  · cases hf
    obtain ⟨a, vs, e1, l1, t1, r1⟩ := rq_tup hx
    obtain ⟨b, ws, e2, l2, t2, r2⟩ := rq_tup hy
    cases r2
    refine .inr ⟨a, b, vs, e1, e2, t1, t2, ?_⟩
    have e : ∀ {ds : List D}, RpL X.K M H ds vs → vs.isEmpty = ds.isEmpty := fun r => by cases r <;> rfl
    rw [e r1]
    exact post_v h rp (.bl _)
  · split at hf
    · rename_i hc
      cases hf
      obtain ⟨d1, c1⟩ := hx.dp hc.1
      obtain ⟨d2, c2⟩ := hy.dp hc.2
      exact .inl ⟨_, _, d1, d2, shaped_of hc.1 (by decide) c1, shaped_of hc.2 (by decide) c2, post_v h rp (.bl _)⟩
    · cases hf

/-! ### is: the right side None, True or False -/
def isNon : D → Bool
  | .non => true
  | _ => false
def isBl (b : Bool) : D → Bool
  | .bl a => a == b
  | _ => false
def isD (d e : D) : Option D := match e with
  | .non => some (.bl (isNon d))
  | .bl b => some (.bl (isBl b d))
  | _ => none
def isntD (d e : D) : Option D := match e with
  | .non => some (.bl (!isNon d))
  | .bl b => some (.bl (!isBl b d))
  | _ => none
def constV : V → Bool
  | .non => true
  | .bl _ => true
  | _ => false
def noTy : V → Prop
  | .ty _ => False
  | _ => True
def rIs : R2 := fun x y H Q => constV y = true ∧ noTy x ∧ Q (.bl (decide (x = y))) H
def rIsnt : R2 := fun x y H Q => constV y = true ∧ noTy x ∧ Q (.bl (!decide (x = y))) H
theorem plain_const {x y : V} {v u : Value} (h : constV y = true) (hx : noTy x) (rx : RelV x v) (ry : RelV y u) : plainIs v u = true ∧ (v == u) = decide (x = y) := by
  cases y with
  | non =>
    cases ry
    cases x with
    | non => cases rx; exact ⟨rfl, rfl⟩
    | bl _ => cases rx; exact ⟨rfl, rfl⟩
    | int _ => obtain ⟨t, rfl⟩ := rx; exact ⟨rfl, rfl⟩
    | str _ => obtain ⟨t, rfl⟩ := rx; exact ⟨rfl, rfl⟩
    | byt _ => obtain ⟨t, rfl⟩ := rx; exact ⟨rfl, rfl⟩
    | flt _ => obtain ⟨t, rfl⟩ := rx; exact ⟨rfl, rfl⟩
    | ref _ => cases rx; exact ⟨rfl, rfl⟩
    | ty _ => exact hx.elim
  | bl b =>
    cases ry
    cases x with
    | non => cases rx; exact ⟨rfl, rfl⟩
    | bl a =>
      cases rx
      refine ⟨rfl, ?_⟩
      cases a <;> cases b <;> rfl
    | int _ => obtain ⟨t, rfl⟩ := rx; exact ⟨rfl, rfl⟩
    | str _ => obtain ⟨t, rfl⟩ := rx; exact ⟨rfl, rfl⟩
    | byt _ => obtain ⟨t, rfl⟩ := rx; exact ⟨rfl, rfl⟩
    | flt _ => obtain ⟨t, rfl⟩ := rx; exact ⟨rfl, rfl⟩
    | ref _ => cases rx; exact ⟨rfl, rfl⟩
    | ty _ => exact hx.elim
  | _ => cases h
theorem op_isC : OpR X (compareOp .Is) rIs := by
  intro pins s σ H x y v u Q I rx ry h
  obtain ⟨h1, h2, q⟩ := h
  obtain ⟨p, e⟩ := plain_const h1 h2 rx ry
  exact wpAny_is_plain p (fin_bl I q e.symm)
theorem op_isntC : OpR X (compareOp .IsNot) rIsnt := by
  intro pins s σ H x y v u Q I rx ry h
  obtain ⟨h1, h2, q⟩ := h
  obtain ⟨p, e⟩ := plain_const h1 h2 rx ry
  exact wpAny_isNot_plain p (fin_bl I q (by rw [e]))
theorem rq_noty {K : PySem.W.Frag} {M : Addr → Prop} {H : Hp} {d : D} {v : V} (h : Rq K M H d v) : noTy v := by
  cases d with
  | lst ds => obtain ⟨_, a, _, rfl, _⟩ := h; trivial
  | dct ds => obtain ⟨_, a, _, rfl, _⟩ := h; trivial
  | _ => cases h <;> trivial
theorem rq_const {K : PySem.W.Frag} {M : Addr → Prop} {H : Hp} {d : D} {v : V} (h : Rq K M H d v) : (decide (v = .non) = isNon d) ∧ ∀ b : Bool, decide (v = .bl b) = isBl b d := by
  cases d with
  | lst ds => obtain ⟨_, a, _, rfl, _⟩ := h; exact ⟨rfl, fun _ => rfl⟩
  | dct ds => obtain ⟨_, a, _, rfl, _⟩ := h; exact ⟨rfl, fun _ => rfl⟩
  | bl a =>
    cases h
    refine ⟨rfl, fun b => ?_⟩
    cases a <;> cases b <;> rfl
  | _ => cases h <;> exact ⟨rfl, fun _ => rfl⟩
theorem o_is : OpE X isD rIs := by
  intro B W M H ρ σ d e z x y Q rp hx hy hf h
  obtain ⟨k1, k2⟩ := rq_const hx
  cases e with
  | non =>
    cases hf
    cases (rq_non hy)
    refine ⟨rfl, rq_noty hx, ?_⟩
    rw [k1]
    exact post_v h rp (.bl _)
  | bl b =>
    cases hf
    cases (rq_bl hy)
    refine ⟨rfl, rq_noty hx, ?_⟩
    rw [k2]
    exact post_v h rp (.bl _)
  | _ => cases hf
theorem o_isnt : OpE X isntD rIsnt := by
  intro B W M H ρ σ d e z x y Q rp hx hy hf h
  obtain ⟨k1, k2⟩ := rq_const hx
  cases e with
  | non =>
    cases hf
    cases (rq_non hy)
    refine ⟨rfl, rq_noty hx, ?_⟩
    rw [k1]
    exact post_v h rp (.bl _)
  | bl b =>
    cases hf
    cases (rq_bl hy)
    refine ⟨rfl, rq_noty hx, ?_⟩
    rw [k2]
    exact post_v h rp (.bl _)
  | _ => cases hf

/-! ### in -/
/-- one text within another -/
def inS (a b : Str) : Bool := !(Builtin.Str.occurrences b a 0 b.length 1).isEmpty
theorem inS_sign (c : Nat) (z : Str) : inS ⟨#[c]⟩ z = decide (c ∈ z.cps.toList) := PySem.StrLaws.found_one z c
def rInA (K : PySem.W.Frag) (neg : Bool) : R2 := fun x y H Q => ∃ p xs d ds, y = .ref p ∧ (SqL K H p xs ∨ SqT K H p xs) ∧ Dp K H x d ∧ DpAll K H xs ds ∧ SeqAt.shaped d = true ∧ PyData.canLayAll0 ds = true ∧ d.depth ≤ 60 ∧
  Q (.bl (if neg then !ds.any (fun z => PyData.eqv z d) else ds.any fun z => PyData.eqv z d)) H
theorem op_inA (c : Cd X) : OpR X (compareOp .In) (rInA X.K false) := by
  intro pins s σ H x y v u Q I rx ry h
  obtain ⟨p, xs, d, ds, rfl, hq, dx, dl, sx, cl, hd, q⟩ := h
  obtain ⟨as, r1⟩ := Dp.reads I d x v dx rx
  have hu : X.A.units + 1 + min (PyData.depthAll ds) d.depth < cLine := by
    have := c.units
    have h2 : min (PyData.depthAll ds) d.depth ≤ d.depth := Nat.min_le_right _ _
    omega
  rcases hq with hq | hq
  · obtain ⟨bs, r2⟩ := Dp.reads I (.list ds) (.ref p) u (.lst hq dl) ry
    exact SeqAt.in_list_reads r2 r1 cl (SeqAt.canLay_of_shaped sx) hu ⟨.bl _, H, I, rfl, q⟩
  · obtain ⟨bs, r2⟩ := Dp.reads I (.tuple ds) (.ref p) u (.tup hq dl) ry
    exact SeqAt.in_tuple_reads r2 r1 cl (SeqAt.canLay_of_shaped sx) hu ⟨.bl _, H, I, rfl, q⟩
theorem op_notInA (c : Cd X) : OpR X (compareOp .NotIn) (rInA X.K true) := by
  intro pins s σ H x y v u Q I rx ry h
  obtain ⟨p, xs, d, ds, rfl, hq, dx, dl, sx, cl, hd, q⟩ := h
  obtain ⟨as, r1⟩ := Dp.reads I d x v dx rx
  have hu : X.A.units + 1 + min (PyData.depthAll ds) d.depth < cLine := by
    have := c.units
    have h2 : min (PyData.depthAll ds) d.depth ≤ d.depth := Nat.min_le_right _ _
    omega
  rcases hq with hq | hq
  · obtain ⟨bs, r2⟩ := Dp.reads I (.list ds) (.ref p) u (.lst hq dl) ry
    exact SeqAt.notIn_list_reads r2 r1 cl (SeqAt.canLay_of_shaped sx) hu ⟨.bl _, H, I, rfl, q⟩
  · obtain ⟨bs, r2⟩ := Dp.reads I (.tuple ds) (.ref p) u (.tup hq dl) ry
    exact SeqAt.notIn_tuple_reads r2 r1 cl (SeqAt.canLay_of_shaped sx) hu ⟨.bl _, H, I, rfl, q⟩
def rInS (neg : Bool) : R2 := fun x y H Q => ∃ i j, x = .str i ∧ y = .str j ∧ Q (.bl (if neg then !inS i j else inS i j)) H
theorem op_inSt : OpR X (compareOp .In) (rInS false) := fun pins s σ H x y v u Q I rx ry h => op_in_str pins s σ H x y v u Q I rx ry h
theorem op_notInSt : OpR X (compareOp .NotIn) (rInS true) := fun pins s σ H x y v u Q I rx ry h => L2.op_notIn_str pins s σ H x y v u Q I rx ry h
/-- a key in a dict -/
def rInK (neg : Bool) : R2 := fun x y H Q => ∃ a k kvs, y = .ref a ∧ H a = some (.dK kvs) ∧ x = kV k ∧ Q (.bl (if neg then !(valV kvs k).isSome else (valV kvs k).isSome)) H
theorem op_inK (c : Cd X) : OpR X (compareOp .In) (rInK false) := by
  intro pins s σ H x y v u Q I rx ry h
  obtain ⟨a, k, kvs, rfl, ha, rfl, q⟩ := h
  cases ry
  exact d_in (by have := c.units; omega) I (DGet.k ha) rx fun s' I' => ⟨.bl _, H, I', rfl, q⟩
theorem op_notInK (c : Cd X) : OpR X (compareOp .NotIn) (rInK true) := by
  intro pins s σ H x y v u Q I rx ry h
  obtain ⟨a, k, kvs, rfl, ha, rfl, q⟩ := h
  cases ry
  exact d_notIn (by have := c.units; omega) I (DGet.k ha) rx fun s' I' => ⟨.bl _, H, I', rfl, q⟩
def rInAll (K : PySem.W.Frag) (neg : Bool) : R2 := fun x y H Q => rInA K neg x y H Q ∨ (rInS neg x y H Q ∨ rInK neg x y H Q)
theorem op_in (c : Cd X) : OpR X (compareOp .In) (rInAll X.K false) := (op_inA c).or (op_inSt.or (op_inK c))
theorem op_notIn (c : Cd X) : OpR X (compareOp .NotIn) (rInAll X.K true) := (op_notInA c).or (op_notInSt.or (op_notInK c))
def keyD : D → Option Key
  | .int i => some (.inl i)
  | .str x => some (.inr x)
  | _ => none
def lookD (kvs : List (Key × D)) (k : Key) : Option D := (kvs.find? fun kv => decide (kv.1 = k)).map (·.2)
def anyD (d : D) (ds : List D) : Bool := ds.any fun z => eqD z d
def inB (d e : D) : Option Bool := match d, e with
  | .str a, .str b => some (inS a b)
  | d, .tup ds => if okD 60 d = true ∧ okL 60 ds = true then some (anyD d ds) else none
  | d, .lst ds => if okD 60 d = true ∧ okL 60 ds = true then some (anyD d ds) else none
  | d, .dct kvs => (keyD d).map fun k => (lookD kvs k).isSome
  | _, _ => none
def inD (d e : D) : Option D := (inB d e).map .bl
def notInD (d e : D) : Option D := (inB d e).map fun b => .bl (!b)
theorem RpK.look {K : PySem.W.Frag} {M : Addr → Prop} {H : Hp} (k : Key) : ∀ {ds : List (Key × D)} {vs : List (Key × V)}, RpK K M H ds vs → match lookD ds k with
    | some d => ∃ v, valV vs k = some v ∧ Rp K M H d v
    | none => valV vs k = none
  | [], _, h => by cases h; rfl
  | (j, d) :: ds, _, h => by
    cases h with
    | @cons _ _ _ v vs h1 h2 =>
      have ih := RpK.look k h2
      unfold lookD valV at ih ⊢
      rw [List.find?_cons, List.find?_cons]
      by_cases e : j = k
      · simp only [e, decide_true]
        exact ⟨v, rfl, h1⟩
      · simp only [decide_eq_false e]
        exact ih
theorem RpK.isSome {K : PySem.W.Frag} {M : Addr → Prop} {H : Hp} {k : Key} {ds : List (Key × D)} {vs : List (Key × V)} (h : RpK K M H ds vs) : (valV vs k).isSome = (lookD ds k).isSome := by
  have q := h.look k
  cases e : lookD ds k with
  | none =>
    rw [e] at q
    rw [show valV vs k = none from q]
    rfl
  | some d =>
    rw [e] at q
    obtain ⟨v, q, _⟩ := q
    rw [q]
    rfl
theorem rq_key {K : PySem.W.Frag} {M : Addr → Prop} {H : Hp} {d : D} {v : V} {k : Key} (h : Rq K M H d v) (e : keyD d = some k) : v = kV k := by
  cases d with
  | int i => cases e; exact rq_int h
  | str x => cases e; exact (rq_str h).1
  | _ => cases e
theorem any_py (d : D) (ds : List D) : ((toPyL ds).any fun z => PyData.eqv z (toPy d)) = anyD d ds := by
  rw [toPyL_map, List.any_map]
  rfl
theorem in_some {neg : Bool} {B : Base} {W : WX} {M : Addr → Prop} {H : Hp} {ρ : Env} {σ : St} {d e : D} {b : Bool} {x y : V} {Q : V → Hp → Prop} (rp : Rep X.K B M H ρ σ) (hx : Rq X.K M H d x) (hy : Rq X.K M H e y) (hf : inB d e = some b)
    (h : Post X B W (RelE X.K) M H σ (.ok (.bl (if neg then !b else b)) ρ) Q) : rInAll X.K neg x y H Q := by
  have seq : ∀ (ds : List D) (a : Addr) (vs : List V), y = .ref a → (SqL X.K H a vs ∨ SqT X.K H a vs) → RpL X.K M H ds vs → okD 60 d = true ∧ okL 60 ds = true → b = anyD d ds → rInAll X.K neg x y H Q := by
    intro ds a vs e1 hq r hc eb
    obtain ⟨dx, cx⟩ := hx.dp hc.1
    obtain ⟨dl, cl⟩ := r.dp 60 hc.2
    refine .inl ⟨a, vs, _, _, e1, hq, dx, dl, shaped_of hc.1 (by decide) cx, cl, okD.depth 60 d hc.1, ?_⟩
    rw [any_py, ← eb]
    exact post_v h rp (.bl _)
  unfold inB at hf
  split at hf
  · cases hf
    obtain ⟨e1, _⟩ := rq_str hx
    obtain ⟨e2, _⟩ := rq_str hy
    exact .inr (.inl ⟨_, _, e1, e2, post_v h rp (.bl _)⟩)
  · split at hf
    · rename_i hc
      cases hf
      obtain ⟨a, vs, e1, _, t, r⟩ := rq_tup hy
      exact seq _ a vs e1 (.inr t) r hc rfl
    · cases hf
  · split at hf
    · rename_i hc
      cases hf
      obtain ⟨a, vs, e1, _, t, r⟩ := rq_lst hy
      exact seq _ a vs e1 (.inl (SqL.of t)) r hc rfl
    · cases hf
  · rename_i kvs _
    cases ek : keyD d with
    | none => rw [ek] at hf; cases hf
    | some k =>
      rw [ek] at hf
      cases hf
      obtain ⟨a, vs, e1, _, t, r⟩ := rq_dct hy
      refine .inr (.inr ⟨a, k, vs, e1, t, rq_key hx ek, ?_⟩)
      rw [r.isSome]
      exact post_v h rp (.bl _)
  · cases hf
theorem o_in : OpE X inD (rInAll X.K false) := by
  intro B W M H ρ σ d e z x y Q rp hx hy hf h
  unfold inD at hf
  cases eb : inB d e with
  | none => rw [eb] at hf; cases hf
  | some b =>
    rw [eb] at hf
    cases hf
    exact in_some (neg := false) rp hx hy eb h
theorem o_notIn : OpE X notInD (rInAll X.K true) := by
  intro B W M H ρ σ d e z x y Q rp hx hy hf h
  unfold notInD at hf
  cases eb : inB d e with
  | none => rw [eb] at hf; cases hf
  | some b =>
    rw [eb] at hf
    cases hf
    exact in_some (neg := true) rp hx hy eb h
end
end NV

set_option Elab.async false
set_option linter.all false
set_option maxRecDepth 100000
set_option maxHeartbeats 4000000
/-! Core3c: subscripts, slices, displays, built-in functions. -/
namespace NV
open PySem PySem.Spec PyProof.Rows L2

section
variable {X : Cx} {W : WX}
/-! ### a[b] -/
def rIxK : R2 := fun x y H Q => ∃ a k kvs v, x = .ref a ∧ H a = some (.dK kvs) ∧ y = kV k ∧ valV kvs k = some v ∧ Q v H
theorem ix_key (c : Cd X) : IxR X rIxK := by
  intro value slice pins s σ H x y v u Q I rx ry h hs
  obtain ⟨a, k, kvs, z, rfl, ha, rfl, hv, q⟩ := h
  cases rx
  have g : DGet H a (kV k) (some z) := by rw [← hv]; exact DGet.k ha
  exact tail_any (dict_typeIs I g) PySem.F.slot_dict_getitem.lookup (d_getItem (by have := c.units; omega) I g ry fun w' s' I' rw' => ⟨z, H, I', rw', q⟩) hs
def rIxAll (K : PySem.W.Frag) : R2 := fun x y H Q => rIx K x y H Q ∨ rIxK x y H Q
theorem ix_all (c : Cd X) : IxR X (rIxAll X.K) := ix_seq.or (ix_key c)
def ixD : D → D → Option D
  | .tup xs, .int i => atI xs i
  | .lst xs, .int i => atI xs i
  | .scr xs, .int i => (atI xs i).map .int
  | .str z, .int i => (atI z.cps.toList i).map fun c => .str ⟨#[c]⟩
  | .dct kvs, k => (keyD k).bind fun k => lookD kvs k
  | _, _ => none
theorem RpL.atI {K : PySem.W.Frag} {M : Addr → Prop} {H : Hp} {ds : List D} {vs : List V} {i : Int} {d : D} (h : RpL K M H ds vs) (e : atI ds i = some d) : ∃ v, L2.atI vs i = some v ∧ Rp K M H d v := by
  unfold L2.atI at e ⊢
  rw [← h.length]
  cases hj : ixN ds.length i with
  | none => rw [hj] at e; cases e
  | some j =>
    rw [hj] at e
    obtain ⟨v, q, r⟩ := h.get (i := j) e
    exact ⟨v, q, r⟩
theorem strG_one {z : Str} (g : StrG z) {i : Int} {c : Nat} (e : atI z.cps.toList i = some c) : StrG ⟨#[c]⟩ := by
  refine ⟨by show 1 ≤ sizeLine; decide, ?_⟩
  have h := g.2
  unfold PySem.PyData.strOk at h ⊢
  have hm : c ∈ z.cps.toList := by
    unfold atI at e
    cases hj : ixN z.cps.toList.length i with
    | none => rw [hj] at e; cases e
    | some j =>
      rw [hj] at e
      exact List.mem_of_getElem? e
  rw [Array.all_eq_true_iff_forall_mem] at h
  have := h c (by simpa using hm)
  simpa using this
theorem o_ix : OpE X ixD (rIxAll X.K) := by
  intro B W M H ρ σ d e z x y Q rp hx hy hf h
  unfold ixD at hf
  split at hf
  · obtain ⟨a, vs, e1, _, t, r⟩ := rq_tup hx
    obtain ⟨v, q, r'⟩ := r.atI hf
    exact .inl (.inr (.inl ⟨a, vs, _, v, e1, rq_int hy, t, q, post_v h rp r'⟩))
  · obtain ⟨a, vs, e1, _, t, r⟩ := rq_lst hx
    obtain ⟨v, q, r'⟩ := r.atI hf
    exact .inl (.inl ⟨a, vs, _, v, e1, rq_int hy, SqL.of t, q, post_v h rp r'⟩)
  · rename_i xs i
    obtain ⟨a, e1, _, t⟩ := rq_scr hx
    cases ez : L2.atI xs i with
    | none => rw [ez] at hf; cases hf
    | some n =>
      rw [ez] at hf
      cases hf
      refine .inl (.inl ⟨a, _, i, .int n, e1, rq_int hy, t.sql, ?_, post_v h rp (.int _)⟩)
      unfold L2.atI at ez ⊢
      rw [List.length_map]
      cases hj : ixN xs.length i with
      | none => rw [hj] at ez; cases ez
      | some j =>
        rw [hj] at ez
        have ez : xs[j]? = some n := ez
        show (xs.map V.int)[j]? = _
        rw [List.getElem?_map, ez]
        rfl
  · rename_i z i
    obtain ⟨e1, g⟩ := rq_str hx
    cases ez : L2.atI z.cps.toList i with
    | none => rw [ez] at hf; cases hf
    | some n =>
      rw [ez] at hf
      cases hf
      exact .inl (.inr (.inr ⟨z, i, n, e1, rq_int hy, g.1, ez, post_v h rp (.str (strG_one g ez))⟩))
  · cases ek : keyD e with
    | none => rw [ek] at hf; cases hf
    | some k =>
      rw [ek] at hf
      obtain ⟨a, vs, e1, _, t, r⟩ := rq_dct hx
      simp only [Option.bind_some] at hf
      have q := r.look k
      rw [hf] at q
      obtain ⟨v, q, r'⟩ := q
      exact .inr ⟨a, k, vs, v, e1, t, rq_key hy ek, q, post_v h rp r'⟩
  · cases hf
theorem de_ix {a b : Expr} {ma mb : RM} {pos : Pos} (c : Cd X) (ha : DR X W a ma) (hb : DR X W b mb) (hs : PlainIx b := by exact fun _ _ => rfl) : DE X W (.Subscript a b pos) (eOp2 ixD ma mb) := by
  obtain ⟨ta, pa, sa⟩ := ha
  obtain ⟨tb, pb, sb⟩ := hb
  exact ⟨_, pe_ix (ix_all c) pa pb hs, op2_sat sa sb fun B M H ρ σ d e z x y Q h1 h2 h3 h4 h5 => o_ix B W M H ρ σ d e z x y Q h1 h2 h3 h4 h5⟩

/-! ### slices -/
/-- a slice's part -/
def DO (X : Cx) (W : WX) (e : Option Expr) (m : Env → Res (Option Int)) : Prop := ∃ t, PO X e t ∧ Sat X W (fun _ _ => fun _ _ _ (a b : Option Int) => a = b) t m
def oNo : Env → Res (Option Int) := fun ρ => .ok none ρ
def asI (d : D) (ρ : Env) : Res (Option Int) := match d with
  | .int i => .ok (some i) ρ
  | _ => .bad
def oSome (m : EM) : Env → Res (Option Int) := fun ρ => (m ρ).bind asI
theorem do_none : DO X W none oNo := ⟨_, po_none, fun B M H ρ σ Q rp k => k M H none Ext.refl rp rfl⟩
theorem do_some {e : Expr} {m : EM} (h : DE X W e m) : DO X W (some e) (oSome m) := by
  obtain ⟨t, p, s⟩ := h
  refine ⟨_, po_some p, fun B M H ρ σ Q rp k => s B M H ρ σ _ rp (Post.seq k fun d ρ1 M1 H1 v x1 r1 q1 k1 => ?_)⟩
  cases d with
  | int i =>
    cases q1
    exact ⟨i, rfl, k1 M1 H1 _ Ext.refl r1 rfl⟩
  | _ => exact k1.elim
def cutL {α : Type} (xs : List α) (lo hi : Option Int) : List α := (xs.drop (HT.sIx xs.length 0 lo)).take (HT.sIx xs.length xs.length hi - HT.sIx xs.length 0 lo)
def slD (d : D) (lo hi : Option Int) : Option D := match d with
  | .tup xs => some (.tup (cutL xs lo hi))
  | .lst xs => some (.lst (cutL xs lo hi))
  | .scr xs => some (.lst ((cutL xs lo hi).map .int))
  | .str z => some (.str (cutS z lo hi))
  | _ => none
def rSlAll (K : PySem.W.Frag) : V → Option Int → Option Int → Hp → VK → Prop := fun x lo hi H Q => rSlL K x lo hi H Q ∨ (rSlA K x lo hi H Q ∨ rSlS x lo hi H Q)
theorem sl_all : SlR X (rSlAll X.K) := sl_list.or (sl_tupA.or sl_str)
theorem cut_whole {α : Type} {xs : List α} {lo hi : Option Int} (h : HT.sIx xs.length 0 lo = 0 ∧ HT.sIx xs.length xs.length hi = xs.length) : cutL xs lo hi = xs := by
  unfold cutL
  rw [h.1, h.2]
  simp
theorem cutL_length {α : Type} (xs : List α) (lo hi : Option Int) : (cutL xs lo hi).length ≤ xs.length := by
  unfold cutL
  rw [List.length_take, List.length_drop]
  omega
theorem RpL.cut {K : PySem.W.Frag} {M : Addr → Prop} {H : Hp} {ds : List D} {vs : List V} (h : RpL K M H ds vs) (lo hi : Option Int) : RpL K M H (cutL ds lo hi) (cutV vs lo hi) := by
  unfold cutL cutV
  rw [← h.length]
  exact (h.drop _).take _
theorem cutL_map {α β : Type} (f : α → β) (xs : List α) (lo hi : Option Int) : cutL (xs.map f) lo hi = (cutL xs lo hi).map f := by
  unfold cutL
  rw [List.length_map, List.map_take, List.map_drop]
theorem rpL_ints {K : PySem.W.Frag} {M : Addr → Prop} {H : Hp} : ∀ xs : List Int, RpL K M H (xs.map D.int) (xs.map V.int)
  | [] => .nil
  | x :: xs => .cons (.int x) (rpL_ints xs)
theorem strG_sub {z y : Str} (g : StrG z) (hl : y.cps.toList.length ≤ z.cps.toList.length) (hm : ∀ c ∈ y.cps.toList, c ∈ z.cps.toList) : StrG y := by
  refine ⟨?_, ?_⟩
  · have h : z.cps.size ≤ sizeLine := g.1
    show y.cps.size ≤ sizeLine
    rw [Array.length_toList, Array.length_toList] at hl
    exact Nat.le_trans hl h
  · have h := g.2
    unfold PySem.PyData.strOk at h ⊢
    rw [Array.all_eq_true_iff_forall_mem] at h ⊢
    exact fun x hx => h x (Array.mem_def.mpr (hm x (Array.mem_def.mp hx)))
theorem strG_cut {z : Str} (g : StrG z) (lo hi : Option Int) : StrG (cutS z lo hi) := by
  refine strG_sub g (by rw [Array.length_toList, Array.length_toList]; exact cutS_length z lo hi) fun c hc => ?_
  unfold cutS at hc
  exact List.mem_of_mem_drop (List.mem_of_mem_take (by simpa using hc))
/-- a[lo:hi] -/
def eSl (m : RM) (lo hi : Env → Res (Option Int)) : EM := fun ρ => (m ρ).bind fun x ρ1 => (lo ρ1).bind fun l ρ2 => (hi ρ2).bind fun h ρ3 => (ofO (x.get ρ3) ρ3).bind fun d _ => ofO (slD d l h) ρ3
theorem sl_sat {te : TE} {tl th : TO} {m : RM} {lo hi : Env → Res (Option Int)} {R : Base → St → (Addr → Prop) → Hp → Env → D → V → Prop} {r : V → Option Int → Option Int → Hp → VK → Prop} {f : D → Option Int → Option Int → Option D}
    (s : Sat X W (fun _ σ => RelR X.K σ) te m) (sl : Sat X W (fun _ _ => fun _ _ _ (a b : Option Int) => a = b) tl lo) (sh : Sat X W (fun _ _ => fun _ _ _ (a b : Option Int) => a = b) th hi)
    (h : ∀ (B : Base) (M : Addr → Prop) (H : Hp) (ρ : Env) (σ : St) (d z : D) (l u : Option Int) (x : V) (Q : V → Hp → Prop), Rep X.K B M H ρ σ → Rq X.K M H d x → f d l u = some z → Post X B W (R B σ) M H σ (.ok z ρ) Q → r x l u H Q) :
    Sat X W R (tSl r te tl th) (fun ρ => (m ρ).bind fun x ρ1 => (lo ρ1).bind fun l ρ2 => (hi ρ2).bind fun h ρ3 => (ofO (x.get ρ3) ρ3).bind fun d _ => ofO (f d l h) ρ3) := by
  intro B M H ρ σ Q rp k
  refine s B M H ρ σ _ rp (Post.seq k fun x ρ1 M1 H1 v x1 r1 q1 k1 => ?_)
  refine sl B M1 H1 ρ1 σ _ r1 (Post.seq k1 fun l ρ2 M2 H2 l' x2 r2 q2 k2 => ?_)
  cases q2
  refine sh B M2 H2 ρ2 σ _ r2 (Post.seq k2 fun u ρ3 M3 H3 u' x3 r3 q3 k3 => ?_)
  cases q3
  cases ex : x.get ρ3 with
  | none => rw [ex] at k3; exact k3.elim
  | some d =>
    rw [ex] at k3
    cases ez : f d l u with
    | none => simp only [ofO, Res.bind, ez] at k3; exact k3.elim
    | some z =>
      simp only [ofO, Res.bind, ez] at k3
      exact h B M3 H3 ρ3 σ d z l u v Q r3 (q1.rq (x2.trans x3) r3 ex) ez k3
theorem de_sl {e : Expr} {lo hi : Option Expr} {m : RM} {ml mh : Env → Res (Option Int)} {p2 pos : Pos} (he : DR X W e m) (hl : DO X W lo ml) (hh : DO X W hi mh) : DE X W (.Subscript e (.Slice lo hi none p2) pos) (eSl m ml mh) := by
  obtain ⟨t, p, s⟩ := he
  obtain ⟨tl, pl, sl⟩ := hl
  obtain ⟨th, ph, sh⟩ := hh
  refine ⟨_, pe_slice sl_all p pl ph, sl_sat (f := slD) s sl sh fun B M H ρ σ d z l u x Q rp hx hf k => ?_⟩
  unfold slD at hf
  split at hf
  · cases hf
    obtain ⟨a, vs, e1, l1, t1, r1⟩ := rq_tup hx
    refine .inr (.inl ⟨a, vs, e1, t1, fun hw => ?_, fun _ p hp => post_t k rp (r1.cut l u) (Nat.le_trans (cutL_length _ _ _) l1) hp⟩)
    rw [← r1.length] at hw
    rw [cut_whole hw] at k
    exact post_v k rp (.tup l1 t1 r1)
  · cases hf
    obtain ⟨a, vs, e1, l1, t1, r1⟩ := rq_lst hx
    exact .inl ⟨a, vs, e1, SqL.of t1, fun p hp => post_l k rp (r1.cut l u) (Nat.le_trans (cutL_length _ _ _) l1) hp⟩
  · cases hf
    rename_i xs
    obtain ⟨a, e1, l1, t1⟩ := rq_scr hx
    refine .inl ⟨a, _, e1, t1.sql, fun p hp => ?_⟩
    have q := post_l k rp (vs := (cutL xs l u).map V.int) (p := p) (rpL_ints _) (by rw [List.length_map]; exact Nat.le_trans (cutL_length _ _ _) l1) hp
    rw [← cutL_map] at q
    exact q
  · cases hf
    obtain ⟨e1, g⟩ := rq_str hx
    exact .inr (.inr ⟨_, e1, g.1, post_v k rp (.str (strG_cut g l u))⟩)
  · cases hf
/-- .. of a list, the new list owned -/
def slF (d : D) (lo hi : Option Int) : Option D := match d with
  | .lst xs => some (.lst (cutL xs lo hi))
  | _ => none
def eSlF (m : RM) (lo hi : Env → Res (Option Int)) : EM := fun ρ => (m ρ).bind fun x ρ1 => (lo ρ1).bind fun l ρ2 => (hi ρ2).bind fun h ρ3 => (ofO (x.get ρ3) ρ3).bind fun d _ => ofO (slF d l h) ρ3
theorem df_sl {e : Expr} {lo hi : Option Expr} {m : RM} {ml mh : Env → Res (Option Int)} {p2 pos : Pos} (he : DR X W e m) (hl : DO X W lo ml) (hh : DO X W hi mh) : DF X W (.Subscript e (.Slice lo hi none p2) pos) (eSlF m ml mh) := by
  obtain ⟨t, p, s⟩ := he
  obtain ⟨tl, pl, sl⟩ := hl
  obtain ⟨th, ph, sh⟩ := hh
  refine ⟨_, pe_slice sl_list p pl ph, sl_sat (R := fun B σ => RelF X.K B σ) (f := slF) s sl sh fun B M H ρ σ d z l u x Q rp hx hf k => ?_⟩
  unfold slF at hf
  split at hf
  · cases hf
    obtain ⟨a, vs, e1, l1, t1, r1⟩ := rq_lst hx
    exact ⟨a, vs, e1, SqL.of t1, fun p hp => post_o k rp (r1.cut l u) (Nat.le_trans (cutL_length _ _ _) l1) hp⟩
  · cases hf

/-! ### displays -/
abbrev RelL (K : PySem.W.Frag) : (Addr → Prop) → Hp → Env → List D → List V → Prop := fun M H _ ds vs => RpL K M H ds vs
def DL (X : Cx) (W : WX) (es : List Expr) (m : Env → Res (List D)) : Prop := ∃ t, PA X es t ∧ Sat X W (fun _ _ => RelL X.K) t m
def lNil : Env → Res (List D) := fun ρ => .ok [] ρ
def lCons (m : EM) (ms : Env → Res (List D)) : Env → Res (List D) := fun ρ => (m ρ).bind fun d ρ1 => (ms ρ1).bind fun ds ρ2 => .ok (d :: ds) ρ2
theorem dl_nil : DL X W [] lNil := ⟨_, pa_nil, fun B M H ρ σ Q rp k => k M H [] Ext.refl rp .nil⟩
theorem dl_cons {e : Expr} {es : List Expr} {m : EM} {ms : Env → Res (List D)} (h : DE X W e m) (hs : DL X W es ms) (ha : starEach (e :: es) X.env = (false, eval e X.env) :: starEach es X.env := by rfl) : DL X W (e :: es) (lCons m ms) := by
  obtain ⟨t, p, s⟩ := h
  obtain ⟨ts, ps, ss⟩ := hs
  refine ⟨_, pa_cons p ps ha, fun B M H ρ σ Q rp k => s B M H ρ σ _ rp (Post.seq k fun d ρ1 M1 H1 v x1 r1 q1 k1 => ?_)⟩
  refine ss B M1 H1 ρ1 σ _ r1 (Post.seq k1 fun ds ρ2 M2 H2 vs x2 r2 q2 k2 => ?_)
  exact k2 M2 H2 _ Ext.refl r2 (.cons (Rp.ext x2 q1) q2)
def eTup (m : Env → Res (List D)) : EM := fun ρ => (m ρ).bind fun ds ρ1 => if ds.length ≤ sizeLine then .ok (.tup ds) ρ1 else .bad
def eLst (m : Env → Res (List D)) : EM := fun ρ => (m ρ).bind fun ds ρ1 => if ds.length ≤ sizeLine then .ok (.lst ds) ρ1 else .bad
theorem de_tup {es : List Expr} {m : Env → Res (List D)} {x1 pos} (h : DL X W es m) : DE X W (.Tuple es x1 pos) (eTup m) := by
  obtain ⟨t, p, s⟩ := h
  refine ⟨_, pe_tup p, fun B M H ρ σ Q rp k => s B M H ρ σ _ rp (Post.seq k fun ds ρ1 M1 H1 vs x1 r1 q1 k1 => ?_)⟩
  split at k1
  · rename_i hl
    exact ⟨by rw [← q1.length]; exact hl, fun p hp => post_t k1 r1 q1 hl hp⟩
  · exact k1.elim
theorem df_lst {es : List Expr} {m : Env → Res (List D)} {pos} (h : DL X W es m) : DF X W (.List es pos) (eLst m) := by
  obtain ⟨t, p, s⟩ := h
  refine ⟨_, pe_lst p, fun B M H ρ σ Q rp k => s B M H ρ σ _ rp (Post.seq k fun ds ρ1 M1 H1 vs x1 r1 q1 k1 => ?_)⟩
  split at k1
  · rename_i hl
    exact ⟨by rw [← q1.length]; exact hl, fun p hp => post_o k1 r1 q1 hl hp⟩
  · exact k1.elim
theorem df_dnew {pos} : DF X W (.Dict [] [] pos) (eC (.dct [])) :=
  ⟨_, pe_dnewK, fun B M H ρ σ Q rp k p hp => post_od k rp .nil (Nat.zero_le _) hp⟩

/-! ### built-in functions -/
def aNil : AM := fun ρ => .ok [] ρ
def aCons (m : RM) (ms : AM) : AM := fun ρ => (m ρ).bind fun d ρ1 => (ms ρ1).bind fun ds ρ2 => .ok (d :: ds) ρ2
theorem da_nil : DA X W [] aNil := ⟨_, pa_nil, fun B M H ρ σ Q rp k => k M H [] Ext.refl rp .nil⟩
theorem da_cons {e : Expr} {es : List Expr} {m : RM} {ms : AM} (h : DR X W e m) (hs : DA X W es ms) (ha : starEach (e :: es) X.env = (false, eval e X.env) :: starEach es X.env := by rfl) : DA X W (e :: es) (aCons m ms) := by
  obtain ⟨t, p, s⟩ := h
  obtain ⟨ts, ps, ss⟩ := hs
  refine ⟨_, pa_cons p ps ha, fun B M H ρ σ Q rp k => s B M H ρ σ _ rp (Post.seq k fun d ρ1 M1 H1 v x1 r1 q1 k1 => ?_)⟩
  refine ss B M1 H1 ρ1 σ _ r1 (Post.seq k1 fun ds ρ2 M2 H2 vs x2 r2 q2 k2 => ?_)
  exact k2 M2 H2 _ Ext.refl r2 (.cons (RelR.ext x2 q1) q2)
def getAll (ρ : Env) : List RV → Option (List D)
  | [] => some []
  | r :: rs => match r.get ρ, getAll ρ rs with
    | some d, some ds => some (d :: ds)
    | _, _ => none
def eCallB (f : List D → Option D) (ma : AM) : EM := fun ρ => (ma ρ).bind fun rs ρ1 => (ofO (getAll ρ1 rs) ρ1).bind fun ds _ => ofO (f ds) ρ1
/-- what a built-in's rule asks is served by f -/
def CallE (X : Cx) (f : List D → Option D) (r : List V → Hp → VK → Prop) : Prop :=
  ∀ (B : Base) (W : WX) (M : Addr → Prop) (H : Hp) (ρ : Env) (σ : St) (ds : List D) (z : D) (xs : List V) (Q : V → Hp → Prop), Rep X.K B M H ρ σ → Paired (Rq X.K M H) ds xs → f ds = some z → Post X B W (RelE X.K) M H σ (.ok z ρ) Q → r xs H Q
def CallF (X : Cx) (f : List D → Option D) (r : List V → Hp → VK → Prop) : Prop :=
  ∀ (B : Base) (W : WX) (M : Addr → Prop) (H : Hp) (ρ : Env) (σ : St) (ds : List D) (z : D) (xs : List V) (Q : V → Hp → Prop), Rep X.K B M H ρ σ → Paired (Rq X.K M H) ds xs → f ds = some z → Post X B W (RelF X.K B σ) M H σ (.ok z ρ) Q → r xs H Q
theorem rqs_of {B : Base} {M : Addr → Prop} {H : Hp} {ρ ρ' : Env} {σ : St} (rp : Rep X.K B M H ρ σ) : ∀ {rs : List RV} {vs : List V} {ds : List D}, Paired (fun r v => RelR X.K σ M H ρ' r v) rs vs → getAll ρ rs = some ds → Paired (Rq X.K M H) ds vs
  | [], _, ds, h, e => by cases h; cases e; exact .nil
  | r :: rs, _, ds, h, e => by
    cases h with
    | cons h1 h2 =>
      unfold getAll at e
      cases e1 : r.get ρ with
      | none => rw [e1] at e; cases e
      | some d =>
        rw [e1] at e
        cases e2 : getAll ρ rs with
        | none => rw [e2] at e; cases e
        | some ds' =>
          rw [e2] at e
          cases e
          exact .cons (RelR.rq (ρ := ρ') h1 Ext.refl rp e1) (rqs_of rp h2 e2)
theorem callB_sat {ta : TA} {ma : AM} {f : List D → Option D} {r : List V → Hp → VK → Prop} {R : Base → St → (Addr → Prop) → Hp → Env → D → V → Prop} (s : Sat X W (fun _ σ => RelA X.K σ) ta ma)
    (h : ∀ (B : Base) (M : Addr → Prop) (H : Hp) (ρ : Env) (σ : St) (ds : List D) (z : D) (xs : List V) (Q : V → Hp → Prop), Rep X.K B M H ρ σ → Paired (Rq X.K M H) ds xs → f ds = some z → Post X B W (R B σ) M H σ (.ok z ρ) Q → r xs H Q) :
    Sat X W R (tCB r ta) (eCallB f ma) := by
  intro B M H ρ σ Q rp k
  refine s B M H ρ σ _ rp (Post.seq k fun rs ρ1 M1 H1 vs x1 r1 q1 k1 => ?_)
  cases eg : getAll ρ1 rs with
  | none => rw [eg] at k1; exact k1.elim
  | some ds =>
    rw [eg] at k1
    cases ez : f ds with
    | none => simp only [ofO, Res.bind, ez] at k1; exact k1.elim
    | some z =>
      simp only [ofO, Res.bind, ez] at k1
      exact h B M1 H1 ρ1 σ ds z vs Q r1 (rqs_of r1 q1 eg) ez k1
variable {x : Str} {p pos : Pos} {e : Expr} {es : List Expr} {ma : AM} {f : List D → Option D} {r : List V → Hp → VK → Prop} {id : String}
theorem de_callB (hc : CallR X (.builtin id) r) (hf : CallE X f r) (hg : Gl X x) (hm : X.mg x = none) (hv : bootBuiltins x = some (.builtin id)) (ha : DA X W (e :: es) ma) (hn : x ≠ "__name__" := by decide) (hdb : (x == ("__debug__" : Str)) = false := by decide)
    (he : starEach (e :: es) X.env = (false, eval e X.env) :: starEach es X.env := by rfl) (hpl : (backTo pos (starEach es X.env)).any (·.1) = false := by rfl) : DE X W (.Call (.Name x p) (e :: es) [] pos) (eCallB f ma) := by
  obtain ⟨t, pt, s⟩ := ha
  exact ⟨_, pe_callB hc hg hm hv pt hn hdb he hpl, callB_sat s fun B M H ρ σ ds z xs Q h1 h2 h3 h4 => hf B W M H ρ σ ds z xs Q h1 h2 h3 h4⟩
theorem df_callB (hc : CallR X (.builtin id) r) (hf : CallF X f r) (hg : Gl X x) (hm : X.mg x = none) (hv : bootBuiltins x = some (.builtin id)) (ha : DA X W (e :: es) ma) (hn : x ≠ "__name__" := by decide) (hdb : (x == ("__debug__" : Str)) = false := by decide)
    (he : starEach (e :: es) X.env = (false, eval e X.env) :: starEach es X.env := by rfl) (hpl : (backTo pos (starEach es X.env)).any (·.1) = false := by rfl) : DF X W (.Call (.Name x p) (e :: es) [] pos) (eCallB f ma) := by
  obtain ⟨t, pt, s⟩ := ha
  exact ⟨_, pe_callB hc hg hm hv pt hn hdb he hpl, callB_sat (R := fun B σ => RelF X.K B σ) s fun B M H ρ σ ds z xs Q h1 h2 h3 h4 => hf B W M H ρ σ ds z xs Q h1 h2 h3 h4⟩
theorem de_callT (hc : CallR X (.type id) r) (hf : CallE X f r) (hg : Gl X x) (hm : X.mg x = none) (hv : bootBuiltins x = some (.type id)) (ha : DA X W (e :: es) ma) (hn : x ≠ "__name__" := by decide) (hdb : (x == ("__debug__" : Str)) = false := by decide)
    (he : starEach (e :: es) X.env = (false, eval e X.env) :: starEach es X.env := by rfl) (hpl : (backTo pos (starEach es X.env)).any (·.1) = false := by rfl) : DE X W (.Call (.Name x p) (e :: es) [] pos) (eCallB f ma) := by
  obtain ⟨t, pt, s⟩ := ha
  exact ⟨_, pe_callTy hc hg hm hv pt hn hdb he hpl, callB_sat s fun B M H ρ σ ds z xs Q h1 h2 h3 h4 => hf B W M H ρ σ ds z xs Q h1 h2 h3 h4⟩
theorem df_callT (hc : CallR X (.type id) r) (hf : CallF X f r) (hg : Gl X x) (hm : X.mg x = none) (hv : bootBuiltins x = some (.type id)) (ha : DA X W (e :: es) ma) (hn : x ≠ "__name__" := by decide) (hdb : (x == ("__debug__" : Str)) = false := by decide)
    (he : starEach (e :: es) X.env = (false, eval e X.env) :: starEach es X.env := by rfl) (hpl : (backTo pos (starEach es X.env)).any (·.1) = false := by rfl) : DF X W (.Call (.Name x p) (e :: es) [] pos) (eCallB f ma) := by
  obtain ⟨t, pt, s⟩ := ha
  exact ⟨_, pe_callTy hc hg hm hv pt hn hdb he hpl, callB_sat (R := fun B σ => RelF X.K B σ) s fun B M H ρ σ ds z xs Q h1 h2 h3 h4 => hf B W M H ρ σ ds z xs Q h1 h2 h3 h4⟩
end
end NV

set_option Elab.async false
set_option linter.all false
set_option maxRecDepth 100000
set_option maxHeartbeats 4000000
/-! Core4: statements, targets, loops, comprehensions. -/
namespace NV
open PySem PySem.Spec PyProof.Rows L2

inductive Out where
  | nx (ρ : Env)
  | rt (d : D) (ρ : Env)
  /-- a new list is handed back -/
  | rtF (d : D) (ρ : Env)
  | bk (ρ : Env)
  | ct (ρ : Env)
  | exc (x : Exn) (ρ : Env)
  | bad
abbrev SM := Env → Out
def Out.seq : Out → SM → Out
  | .nx ρ, f => f ρ
  | o, _ => o
def Res.out {α : Type} : Res α → (α → Env → Out) → Out
  | .ok a ρ, f => f a ρ
  | .exc x ρ, _ => .exc x ρ
  | .bad, _ => .bad
theorem seq_nx (ρ : Env) (f : SM) : (Out.nx ρ).seq f = f ρ := rfl
theorem seq_rt (d : D) (ρ : Env) (f : SM) : (Out.rt d ρ).seq f = .rt d ρ := rfl
theorem seq_rtF (d : D) (ρ : Env) (f : SM) : (Out.rtF d ρ).seq f = .rtF d ρ := rfl
theorem seq_bk (ρ : Env) (f : SM) : (Out.bk ρ).seq f = .bk ρ := rfl
theorem seq_ct (ρ : Env) (f : SM) : (Out.ct ρ).seq f = .ct ρ := rfl
theorem seq_exc (x : Exn) (ρ : Env) (f : SM) : (Out.exc x ρ).seq f = .exc x ρ := rfl
theorem seq_bad (f : SM) : Out.bad.seq f = .bad := rfl
theorem out_ok {α : Type} (a : α) (ρ : Env) (f : α → Env → Out) : (Res.ok a ρ).out f = f a ρ := rfl
theorem out_exc {α : Type} (x : Exn) (ρ : Env) (f : α → Env → Out) : (Res.exc x ρ).out f = .exc x ρ := rfl
theorem out_bad {α : Type} (f : α → Env → Out) : (Res.bad).out f = .bad := rfl

def PostS (X : Cx) (B : Base) (W : WX) (M : Addr → Prop) (H : Hp) (o : Out) (E : Ends) : Prop := match o with
  | .nx ρ => ∀ (M' : Addr → Prop) (H' : Hp) (σ' : St), Ext M H M' H' → Rep X.K B M' H' ρ σ' → E.nx σ' H'
  | .rt d ρ => ∀ (M' : Addr → Prop) (H' : Hp) (σ' : St) (v : V), Ext M H M' H' → Rep X.K B M' H' ρ σ' → Rp X.K M' H' d v → E.rt v H'
  | .rtF d ρ => ∀ (M' : Addr → Prop) (H' : Hp) (σ' : St) (v : V), Ext M H M' H' → Rep X.K B M' H' ρ σ' → RelF X.K B σ' M' H' ρ d v → E.rt v H'
  | .bk ρ => ∀ (M' : Addr → Prop) (H' : Hp) (σ' : St), Ext M H M' H' → Rep X.K B M' H' ρ σ' → E.bk σ' H'
  | .ct ρ => ∀ (M' : Addr → Prop) (H' : Hp) (σ' : St), Ext M H M' H' → Rep X.K B M' H' ρ σ' → E.ct σ' H'
  | .exc x ρ => ∀ (M' : Addr → Prop) (H' : Hp) (σ' : St) (c : Value) (dx : Option Addr), Ext M H M' H' → Rep X.K B M' H' ρ σ' → ExR X.K X.mg M' H' x c dx → W c dx σ' H'
  | .bad => False

section
variable {X : Cx} {W : WX} {B : Base} {M M' : Addr → Prop} {H H' : Hp}
theorem PostS.shift {o : Out} {E : Ends} (e : Ext M H M' H') (h : PostS X B W M H o E) : PostS X B W M' H' o E := by
  cases o with
  | nx ρ => exact fun M2 H2 s2 e2 r2 => h M2 H2 s2 (e.trans e2) r2
  | rt d ρ => exact fun M2 H2 s2 v e2 r2 q => h M2 H2 s2 v (e.trans e2) r2 q
  | rtF d ρ => exact fun M2 H2 s2 v e2 r2 q => h M2 H2 s2 v (e.trans e2) r2 q
  | bk ρ => exact fun M2 H2 s2 e2 r2 => h M2 H2 s2 (e.trans e2) r2
  | ct ρ => exact fun M2 H2 s2 e2 r2 => h M2 H2 s2 (e.trans e2) r2
  | exc x ρ => exact fun M2 H2 s2 c dx e2 r2 q => h M2 H2 s2 c dx (e.trans e2) r2 q
  | bad => exact h
/-- an expression's result, then a statement's -/
theorem PostS.out {α β : Type} {R : (Addr → Prop) → Hp → Env → α → β → Prop} {σ : St} {r : Res α} {f : α → Env → Out} {E : Ends} {Q1 : β → Hp → Prop} (h : PostS X B W M H (r.out f) E)
    (k : ∀ a ρ' M' H' b, Ext M H M' H' → Rep X.K B M' H' ρ' σ → R M' H' ρ' a b → PostS X B W M' H' (f a ρ') E → Q1 b H') : Post X B W R M H σ r Q1 := by
  cases r with
  | ok a ρ => exact fun M2 H2 b e2 r2 q => k a ρ M2 H2 b e2 r2 q (PostS.shift e2 h)
  | exc x ρ => exact fun M2 H2 c dx e2 r2 q => h M2 H2 σ c dx e2 r2 q
  | bad => exact h
theorem PostS.seq {o : Out} {f : SM} {E : Ends} {nx : St → Hp → Prop} (h : PostS X B W M H (o.seq f) E)
    (k : ∀ ρ' M' H' σ', Ext M H M' H' → Rep X.K B M' H' ρ' σ' → PostS X B W M' H' (f ρ') E → nx σ' H') : PostS X B W M H o { E with nx := nx } := by
  cases o with
  | nx ρ => exact fun M2 H2 s2 e2 r2 => k ρ M2 H2 s2 e2 r2 (PostS.shift e2 h)
  | rt d ρ => exact h
  | rtF d ρ => exact h
  | bk ρ => exact h
  | ct ρ => exact h
  | exc x ρ => exact h
  | bad => exact h
end

def SatS (X : Cx) (W : WX) (t : TS) (m : SM) : Prop :=
  ∀ (B : Base) (M : Addr → Prop) (H : Hp) (ρ : Env) (σ : St) (E : Ends), Rep X.K B M H ρ σ → PostS X B W M H (m ρ) E → t E σ H
def DS (X : Cx) (W : WX) (s : Stmt) (m : SM) : Prop := ∃ t, PS X s t ∧ SatS X W t m
def DSs (X : Cx) (W : WX) (s : List Stmt) (m : SM) : Prop := ∃ t, PSs X s t ∧ SatS X W t m

section
variable {X : Cx} {W : WX} {st : Stmt} {rest : List Stmt} {e : Expr} {pos : Pos}
def sNil : SM := fun ρ => .nx ρ
def sSeq (a b : SM) : SM := fun ρ => (a ρ).seq b
theorem dss_nil : DSs X W [] sNil := ⟨_, pss_nil, fun B M H ρ σ E r h => h M H σ Ext.refl r⟩
theorem dss_cons {a b : SM} (h1 : DS X W st a) (h2 : DSs X W rest b) : DSs X W (st :: rest) (sSeq a b) := by
  obtain ⟨t, p, s⟩ := h1
  obtain ⟨u, q, s'⟩ := h2
  exact ⟨_, pss_cons p q, fun B M H ρ σ E r h => s B M H ρ σ _ r (PostS.seq h fun ρ' M' H' σ' _ r' k => s' B M' H' ρ' σ' E r' k)⟩
theorem dss_one {a : SM} (h1 : DS X W st a) : DSs X W [st] a := by
  obtain ⟨t, p, s⟩ := h1
  exact ⟨_, pss_one p, s⟩
theorem ds_pass : DS X W (.Pass pos) sNil := ⟨_, ps_pass, fun B M H ρ σ E r h => h M H σ Ext.refl r⟩
/-- a ghost step: slot i is owned no more -/
def sFrz (i : Nat) (m : SM) : SM := fun ρ => match ρ[i]? with
  | some (.o d) => m (ρ.set i (.v d))
  | _ => .bad
theorem dss_frz (i : Nat) {m : SM} (h : DSs X W rest m) : DSs X W rest (sFrz i m) := by
  obtain ⟨t, p, s⟩ := h
  refine ⟨t, p, fun B M H ρ σ E r h => ?_⟩
  unfold sFrz at h
  split at h
  · rename_i d hd
    obtain ⟨M', sub, r'⟩ := r.frz hd
    exact s B M' H _ σ E r' (PostS.shift (Ext.sub sub) h)
  · exact h.elim
theorem ds_frz (i : Nat) {m : SM} (h : DS X W st m) : DS X W st (sFrz i m) := by
  obtain ⟨t, p, s⟩ := h
  refine ⟨t, p, fun B M H ρ σ E r h => ?_⟩
  unfold sFrz at h
  split at h
  · rename_i d hd
    obtain ⟨M', sub, r'⟩ := r.frz hd
    exact s B M' H _ σ E r' (PostS.shift (Ext.sub sub) h)
  · exact h.elim
def sSet (i : Nat) (m : EM) : SM := fun ρ => (m ρ).out fun d ρ1 => .nx (ρ1.set i (.v d))
def sSetO (i : Nat) (m : EM) : SM := fun ρ => (m ρ).out fun d ρ1 => .nx (ρ1.set i (.o d))
theorem ds_set {i : Nat} {x : Str} {m : EM} {pos' : Pos} (hN : X.N.Nodup) (hi : X.N[i]? = some x) (hx : Loc X.env.scope x) (h : DE X W e m) (hs : swapsWith e (some (.Name x pos')) pos.line X.env = pure false := by rfl) (hf : X.fn x = true ∨ X.env.scope.names.lookup x = some .local := by first | exact .inl rfl | exact .inr rfl | assumption) :
    DS X W (.Assign [.Name x pos'] e pos) (sSet i m) := by
  obtain ⟨t, p, s⟩ := h
  exact ⟨_, ps_set hN hi hx p hs hf, fun B M H ρ σ E r h => s B M H ρ σ _ r (PostS.out h fun d ρ1 M1 H1 v x1 r1 q1 k1 => k1 M1 H1 _ Ext.refl (r1.setV i q1))⟩
theorem ds_setO {i : Nat} {x : Str} {m : EM} {pos' : Pos} (hN : X.N.Nodup) (hi : X.N[i]? = some x) (hx : Loc X.env.scope x) (h : DF X W e m) (hs : swapsWith e (some (.Name x pos')) pos.line X.env = pure false := by rfl) (hf : X.fn x = true ∨ X.env.scope.names.lookup x = some .local := by first | exact .inl rfl | exact .inr rfl | assumption) :
    DS X W (.Assign [.Name x pos'] e pos) (sSetO i m) := by
  obtain ⟨t, p, s⟩ := h
  refine ⟨_, ps_set hN hi hx p hs hf, fun B M H ρ σ E r h => s B M H ρ σ _ r (PostS.out (R := RelF X.K B σ) h fun d ρ1 M1 H1 v x1 r1 q1 k1 => ?_)⟩
  obtain ⟨a, rfl, w, hb, an, np⟩ := q1
  exact k1 M1 H1 _ Ext.refl (r1.setO i w hb an np)
def sRet (m : EM) : SM := fun ρ => (m ρ).out fun d ρ1 => .rt d ρ1
def sRetF (m : EM) : SM := fun ρ => (m ρ).out fun d ρ1 => .rtF d ρ1
def sRetN : SM := fun ρ => .rt .non ρ
theorem ds_ret {m : EM} (h : DE X W e m) : DS X W (.Return (some e) pos) (sRet m) := by
  obtain ⟨t, p, s⟩ := h
  exact ⟨_, ps_ret p, fun B M H ρ σ E r h => s B M H ρ σ _ r (PostS.out h fun d ρ1 M1 H1 v x1 r1 q1 k1 => k1 M1 H1 _ v Ext.refl r1 q1)⟩
theorem ds_retF {m : EM} (h : DF X W e m) : DS X W (.Return (some e) pos) (sRetF m) := by
  obtain ⟨t, p, s⟩ := h
  exact ⟨_, ps_ret p, fun B M H ρ σ E r h => s B M H ρ σ _ r (PostS.out (R := RelF X.K B σ) h fun d ρ1 M1 H1 v x1 r1 q1 k1 => k1 M1 H1 _ v Ext.refl r1 q1)⟩
theorem ds_retN : DS X W (.Return none pos) sRetN := ⟨_, ps_retN, fun B M H ρ σ E r h => h M H σ _ Ext.refl r .non⟩
def sIf (c : TM) (a b : SM) : SM := fun ρ => (c ρ).out fun k ρ1 => if k then a ρ1 else b ρ1
theorem ds_if {c : Expr} {sa sb : List Stmt} {mc : TM} {a b : SM} (hc : DT X W c mc) (ha : DSs X W sa a) (hb : DSs X W sb b) : DS X W (.If c sa sb pos) (sIf mc a b) := by
  obtain ⟨t, p, s⟩ := hc
  obtain ⟨ta, pa, s1⟩ := ha
  obtain ⟨tb, pb, s2⟩ := hb
  refine ⟨_, ps_if p pa pb, fun B M H ρ σ E r h => s B M H ρ σ _ r (PostS.out h fun k ρ1 M1 H1 v x1 r1 q1 k1 => ?_)⟩
  cases q1
  cases k with
  | true => exact iteT (s1 B M1 H1 ρ1 σ E r1 k1)
  | false => exact iteF (s2 B M1 H1 ρ1 σ E r1 k1)
def sDrop (m : EM) : SM := fun ρ => (m ρ).out fun _ ρ1 => .nx ρ1
theorem ds_expr {m : EM} (h : DE X W e m) (hs : swapsWith e none pos.line X.env = pure false := by rfl) : DS X W (.Expr e pos) (sDrop m) := by
  obtain ⟨t, p, s⟩ := h
  exact ⟨_, ps_expr p hs, fun B M H ρ σ E r h => s B M H ρ σ _ r (PostS.out h fun d ρ1 M1 H1 v x1 r1 q1 k1 => k1 M1 H1 _ Ext.refl r1)⟩

/-! ### owned objects are changed -/
def ownGet (ρ : Env) (i : Nat) : Option D := (RV.own i).get ρ
def ownSet (ρ : Env) (i : Nat) (d : D) : Env := match ρ[i]? with
  | some (.p _) => ρ.set i (.p d)
  | some (.o _) => ρ.set i (.o d)
  | _ => ρ
theorem own_at {K : PySem.W.Frag} {B : Base} {M : Addr → Prop} {H : Hp} {ρ : Env} {σ : St} {i : Nat} {d : D} (r : Rep K B M H ρ σ) (h : ownGet ρ i = some d) :
    ∃ a s, ρ[i]? = some s ∧ isOwn s = true ∧ σ[i]? = some (some (V.ref a)) ∧ Ow K M H d a ∧ ∀ d', ownSet ρ i d' = ρ.set i (reSlot s d') := by
  unfold ownGet at h
  cases e : ρ[i]? with
  | none => simp only [RV.get, e] at h; cases h
  | some s =>
    simp only [RV.get, e] at h
    cases s with
    | no => cases h
    | v d => cases h
    | o d1 =>
      cases h
      obtain ⟨a, e1, w, _⟩ := r.slot i _ e
      exact ⟨a, _, rfl, rfl, join_of e1, w, fun d' => by unfold ownSet; rw [e]; rfl⟩
    | p d1 =>
      cases h
      obtain ⟨a, e1, w, _⟩ := r.slot i _ e
      exact ⟨a, _, rfl, rfl, join_of e1, w, fun d' => by unfold ownSet; rw [e]; rfl⟩
/-- what a method's rule asks is served by f: the new content, the answer -/
def MutE (X : Cx) (f : D → List D → Option (D × D)) (r : V → List V → Hp → VK → Prop) : Prop :=
  ∀ (M : Addr → Prop) (H : Hp) (a : Addr) (d d' z : D) (ds : List D) (xs : List V) (Q : V → Hp → Prop), Ow X.K M H d a → RpL X.K M H ds xs → f d ds = some (d', z) →
    (∀ (u : HO) (v : V), Ow X.K M (upd H a u) d' a → (∀ H', Ext M H M H' → Rp X.K M H' z v) → Q v (upd H a u)) → r (.ref a) xs H Q
def eMut (i : Nat) (ok : D → Bool) (f : D → List D → Option (D × D)) (ml : Env → Res (List D)) : EM := fun ρ => (ofO (ownGet ρ i) ρ).bind fun d0 _ => if ok d0 then (ml ρ).bind fun ds ρ1 => (ofO (ownGet ρ1 i) ρ1).bind fun d _ =>
  (ofO (f d ds) ρ1).bind fun r _ => .ok r.2 (ownSet ρ1 i r.1) else .bad
def isLst : D → Bool
  | .lst _ => true
  | _ => false
theorem de_mut {i : Nat} {x : Str} {px apos cpos : Pos} {f : D → List D → Option (D × D)} {r : V → List V → Hp → VK → Prop} {ml : Env → Res (List D)} {es : List Expr} {name : Str} {id : String} (hv : PE X (.Name x px) (tVar i))
    (slot : PySem.Slot "list" name id) (hty : typeOf (.builtin id) = pure (.type "method_descriptor")) (hm : MtR X id r) (hf : MutE X f r) (ha : DL X W (e :: es) ml)
    (hbase : attributeBase (.Name x px) name X.env (eval (.Name x px) X.env) = eval (.Name x px) X.env := by rfl)
    (hfew : ((backTo cpos (starEach (e :: es) X.env)).all (fun x => !x.1) && (backToKw cpos (keywordEach [] X.env)).all (fun x => x.1.isSome)
      && decide ((e :: es).length + ([] : List Keyword).length + (if ([] : List Keyword).isEmpty then 0 else 1) < 30)) = true := by rfl)
    (hline : (apos.endLine == cpos.line) = true := by rfl) (hs : starEach (e :: es) X.env = (false, eval e X.env) :: starEach es X.env := by rfl) (hplain : (backTo cpos (starEach es X.env)).any (·.1) = false := by rfl) :
    DE X W (.Call (.Attribute (.Name x px) name apos) (e :: es) [] cpos) (eMut i isLst f ml) := by
  obtain ⟨t, p, s⟩ := ha
  refine ⟨_, pe_bm PySem.F.plainAttrs_list slot hty hm hv p hbase hfew hline hs hplain, fun B M H ρ σ Q rp k => ?_⟩
  unfold eMut at k
  cases e0 : ownGet ρ i with
  | none => rw [e0] at k; exact k.elim
  | some d0 =>
    rw [e0] at k
    cases d0 with
    | lst ds0 =>
      simp only [ofO, Res.bind, isLst] at k
      obtain ⟨a, sl, hi, ho, hv1, w, _⟩ := own_at rp e0
      obtain ⟨_, _, vs0, hH, _⟩ := w
      refine ⟨_, hv1, .inl ⟨rfl, _, SqL.of hH⟩, ?_⟩
      refine s B M H ρ σ _ rp (Post.seq k fun ds ρ1 M1 H1 xs x1 r1 q1 k1 => ?_)
      cases e1 : ownGet ρ1 i with
      | none => rw [e1] at k1; exact k1.elim
      | some d =>
        rw [e1] at k1
        obtain ⟨a', sl', hi', ho', hv', w', es'⟩ := own_at r1 e1
        rw [hv1] at hv'
        cases hv'
        cases e2 : f d ds with
        | none => simp only [ofO, Res.bind, e2] at k1; exact k1.elim
        | some r =>
          simp only [ofO, Res.bind, e2] at k1
          obtain ⟨o0, q0, im⟩ := w'.there
          refine hf M1 H1 a d r.1 r.2 ds xs Q w' q1 e2 fun u v wn rz => ?_
          have hx : Ext M1 H1 M1 (upd H1 a u) := Ext.write w'.mem q0 im
          refine k1 M1 _ v hx ?_ (rz _ hx)
          rw [es' r.1]
          exact r1.mutate hi' ho' hv1 wn rfl
    | _ => simp only [ofO, Res.bind, isLst] at k; exact k.elim
def appD (d : D) (xs : List D) : Option (D × D) := match d, xs with
  | .lst ds, [y] => if ds.length < sizeLine then some (.lst (ds ++ [y]), .non) else none
  | _, _ => none
theorem m_append : MutE X appD rAppend := by
  intro M H a d d' z ds xs Q w r hf k
  unfold appD at hf
  split at hf
  · split at hf
    · rename_i hl
      cases hf
      obtain ⟨m, l, vs, e, q⟩ := w
      cases r with
      | @cons _ _ v1 _ r1 r2 =>
        cases r2
        have hx : Ext M H M (upd H a (.lst (vs ++ [v1]))) := Ext.write m e fun z => z
        exact ⟨a, vs, _, rfl, rfl, e, by rw [← q.length]; exact hl, k _ _ ⟨m, by rw [List.length_append]; exact hl, _, upd_same, RpL.ext hx (q.append (.cons r1 .nil))⟩ fun _ _ => .non⟩
    · cases hf
  · cases hf
/-- xs[i] = e -/
def sSetIx (i : Nat) (me mi : EM) : SM := fun ρ => (me ρ).out fun z ρ1 => (ofO (ownGet ρ1 i) ρ1).out fun _ _ => (mi ρ1).out fun k ρ2 => match ownGet ρ2 i, k with
  | some (.lst ds), .int n => (match ixN ds.length n with
    | some j => .nx (ownSet ρ2 i (.lst (ds.set j z)))
    | none => .bad)
  | _, _ => .bad
theorem ds_setIx {i : Nat} {x : Str} {px pos' : Pos} {ix : Expr} {me mi : EM} (hv : PE X (.Name x px) (tVar i)) (he : DE X W e me) (hi : DE X W ix mi)
    (ha : ∀ v, assign (.Subscript (.Name x px) ix pos') X.env v = (do
      let ov ← holding [v] (eval (.Name x px) X.env)
      let iv ← holding [v, ov] (eval ix X.env)
      standAt pos'
      holding [v, ov, iv] (setItem ov iv v)
      release [v, ov, iv] []) := by intro _; rfl)
    (hs : swapsWithSole [.Subscript (.Name x px) ix pos'] e pos.line X.env = pure false := by rfl) (hw : swappedStores [.Subscript (.Name x px) ix pos'] e X.env = pure none := by rfl)
    (h1 : (assignEach [.Subscript (.Name x px) ix pos'] X.env).map (·.2) = [assign (.Subscript (.Name x px) ix pos') X.env] := by rfl) :
    DS X W (.Assign [.Subscript (.Name x px) ix pos'] e pos) (sSetIx i me mi) := by
  obtain ⟨t, p, s⟩ := he
  obtain ⟨t2, p2, s2⟩ := hi
  refine ⟨_, ps_asg p (pg_sub hv p2 set_list ha) hs hw h1, fun B M H ρ σ E r h => s B M H ρ σ _ r (PostS.out h fun z ρ1 M1 H1 zv x1 r1 q1 k1 => ?_)⟩
  cases e0 : ownGet ρ1 i with
  | none => rw [e0] at k1; exact k1.elim
  | some d0 =>
    rw [e0] at k1
    obtain ⟨a, sl, hi, ho, hv1, w, _⟩ := own_at r1 e0
    refine ⟨_, hv1, s2 B M1 H1 ρ1 σ _ r1 (PostS.out (α := D) (f := fun k ρ2 => match ownGet ρ2 i, k with
      | some (.lst ds), .int n => (match ixN ds.length n with
        | some j => .nx (ownSet ρ2 i (.lst (ds.set j z)))
        | none => .bad)
      | _, _ => .bad) k1 fun kd ρ2 M2 H2 kv x2 r2 q2 k2 => ?_)⟩
    cases e1 : ownGet ρ2 i with
    | none => simp only [e1] at k2; exact k2.elim
    | some d =>
      obtain ⟨a', sl', hi', ho', hv', w', es'⟩ := own_at r2 e1
      rw [hv1] at hv'
      cases hv'
      cases d with
      | lst ds =>
        cases kd with
        | int n =>
          simp only [e1] at k2
          cases ej : ixN ds.length n with
          | none => simp only [ej] at k2; exact k2.elim
          | some j =>
            simp only [ej] at k2
            obtain ⟨m, l, vs, hH, q⟩ := w'
            cases q2
            refine ⟨a, vs, n, j, rfl, rfl, hH, by rw [← q.length]; exact ej, ?_⟩
            have hx : Ext M2 H2 M2 (upd H2 a (.lst (vs.set j zv))) := Ext.write m hH fun z => z
            refine k2 M2 _ σ hx ?_
            rw [es']
            exact r2.mutate (d' := .lst (ds.set j z)) hi' ho' hv1 ⟨m, by simpa using l, _, upd_same, RpL.ext hx (RpL.set (Rp.ext x2 q1) j q)⟩ rfl
        | _ => simp only [e1] at k2; exact k2.elim
      | _ => simp only [e1] at k2; exact k2.elim
end
end NV

set_option Elab.async false
set_option linter.all false
set_option maxRecDepth 100000
set_option maxHeartbeats 4000000
/-! Core5: targets, what is walked, for, comprehensions, while. -/
namespace NV
open PySem PySem.Spec PyProof.Rows L2

section
variable {X : Cx} {W : WX}
/-! ### targets -/
/-- only the slots vs are stored -/
def Only (vs : List Nat) (σ σ' : St) : Prop := σ'.length = σ.length ∧ ∀ j, j ∉ vs → σ'[j]? = σ[j]?
def DG (X : Cx) (tg : Expr) (g : D → Env → Option Env) (vs : List Nat) : Prop := ∃ t, PG X tg t ∧
  ∀ (B : Base) (M : Addr → Prop) (H : Hp) (ρ ρ' : Env) (σ : St) (d : D) (v : V) (Q : St → Hp → Prop), Rep X.K B M H ρ σ → Rp X.K M H d v → g d ρ = some ρ' → (∀ σ', Rep X.K B M H ρ' σ' → Only vs σ σ' → Q σ' H) → t v σ H Q
def gNm (i : Nat) (d : D) (ρ : Env) : Option Env := some (ρ.set i (.v d))
theorem dg_name {i : Nat} {x : Str} {pos : Pos} (hN : X.N.Nodup) (hi : X.N[i]? = some x) (hx : Loc X.env.scope x) (hf : X.fn x = true ∨ X.env.scope.names.lookup x = some .local := by first | exact .inl rfl | exact .inr rfl | assumption) : DG X (.Name x pos) (gNm i) [i] :=
  ⟨_, pg_name hN hi hx hf, fun B M H ρ ρ' σ d v Q r q e k => by
    cases e
    exact k _ (r.setV i q) ⟨by simp, fun j hj => List.getElem?_set_ne fun e => hj (by simp [e])⟩⟩
def DGs (X : Cx) (tgs : List Expr) (g : List D → Env → Option Env) (us : List Nat) : Prop := ∃ t, PGs X tgs t ∧
  ∀ (B : Base) (M : Addr → Prop) (H : Hp) (ρ ρ' : Env) (σ : St) (ds : List D) (vs : List V) (Q : St → Hp → Prop), Rep X.K B M H ρ σ → RpL X.K M H ds vs → g ds ρ = some ρ' → (∀ σ', Rep X.K B M H ρ' σ' → Only us σ σ' → Q σ' H) → t vs σ H Q
def gsNil (ds : List D) (ρ : Env) : Option Env := match ds with
  | [] => some ρ
  | _ => none
def gsCons (g : D → Env → Option Env) (gs : List D → Env → Option Env) (ds : List D) (ρ : Env) : Option Env := match ds with
  | d :: r => (g d ρ).bind fun ρ1 => gs r ρ1
  | _ => none
theorem dgs_nil : DGs X [] gsNil [] := ⟨_, pgs_nil, fun B M H ρ ρ' σ ds vs Q r q e k => by
  cases ds with
  | nil =>
    cases q
    cases e
    exact ⟨rfl, k _ r ⟨rfl, fun _ _ => rfl⟩⟩
  | cons _ _ => cases e⟩
theorem dgs_cons {e : Expr} {es : List Expr} {g : D → Env → Option Env} {gs : List D → Env → Option Env} {us vs : List Nat} (h : DG X e g us) (hs : DGs X es gs vs) (ha : (assignEach (e :: es) X.env).map (·.2) = assign e X.env :: (assignEach es X.env).map (·.2) := by rfl) : DGs X (e :: es) (gsCons g gs) (us ++ vs) := by
  obtain ⟨t, p, s⟩ := h
  obtain ⟨u, q, s'⟩ := hs
  refine ⟨_, pgs_cons p q ha, fun B M H ρ ρ' σ ds vs Q r rq e k => ?_⟩
  cases ds with
  | nil => cases e
  | cons d ds =>
    cases rq with
    | cons r1 r2 =>
      have e : (g d ρ).bind (fun ρ1 => gs ds ρ1) = some ρ' := e
      cases e1 : g d ρ with
      | none => rw [e1] at e; cases e
      | some ρ1 =>
        rw [e1] at e
        exact ⟨_, _, rfl, s B M H ρ ρ1 σ d _ _ r r1 e1 fun σ1 rr o1 => s' B M H ρ1 ρ' σ1 ds _ Q rr r2 e fun σ2 rr2 o2 => k σ2 rr2 ⟨o2.1.trans o1.1, fun j hj => by
          rw [List.mem_append, not_or] at hj
          exact (o2.2 j hj.2).trans (o1.2 j hj.1)⟩⟩
def gTp (n : Nat) (gs : List D → Env → Option Env) (d : D) (ρ : Env) : Option Env := match d with
  | .tup ds => if ds.length = n then gs ds ρ else none
  | _ => none
theorem dg_tup {es : List Expr} {k : Nat} {gs : List D → Env → Option Env} {n : Nat} {vs : List Nat} {pos : Pos} (c : Cd X) (h : DGs X es gs vs) (hn : (assignEach es X.env).length = n := by rfl) (hst : (assignEach es X.env).findIdx? (·.1) = none := by rfl) : DG X (.Tuple es k pos) (gTp n gs) vs := by
  obtain ⟨t, p, s⟩ := h
  refine ⟨_, pg_tup c.calm p hn hst, fun B M H ρ ρ' σ d v Q r q e k => ?_⟩
  unfold gTp at e
  split at e
  · split at e
    · rename_i hl
      cases q with
      | tup l h1 h2 => exact ⟨_, _, rfl, h1, by rw [← h2.length]; exact hl, s B M H ρ ρ' σ _ _ Q r h2 e k⟩
    · cases e
  · cases e
def sAsg (m : EM) (g : D → Env → Option Env) : SM := fun ρ => (m ρ).out fun d ρ1 => match g d ρ1 with
  | some ρ2 => .nx ρ2
  | none => .bad
theorem ds_asg {tg e : Expr} {m : EM} {g : D → Env → Option Env} {vs : List Nat} {pos : Pos} (he : DE X W e m) (hg : DG X tg g vs) (hs : swapsWithSole [tg] e pos.line X.env = pure false := by rfl) (hw : swappedStores [tg] e X.env = pure none := by rfl)
    (h1 : (assignEach [tg] X.env).map (·.2) = [assign tg X.env] := by rfl) : DS X W (.Assign [tg] e pos) (sAsg m g) := by
  obtain ⟨t, p, s⟩ := he
  obtain ⟨u, q, s'⟩ := hg
  refine ⟨_, ps_asg p q hs hw h1, fun B M H ρ σ E r h => s B M H ρ σ _ r (PostS.out h fun d ρ1 M1 H1 v x1 r1 q1 k1 => ?_)⟩
  cases e1 : g d ρ1 with
  | none => simp only [e1] at k1; exact k1.elim
  | some ρ2 =>
    simp only [e1] at k1
    exact s' B M1 H1 ρ1 ρ2 σ d v _ r1 q1 e1 fun σ' rr _ => k1 M1 H1 σ' Ext.refl rr
/-- a, b = x, y -/
def sPar (i j : Nat) (m : Env → Res (List D)) : SM := fun ρ => (m ρ).out fun ds ρ1 => match ds with
  | [d, e] => .nx ((ρ1.set i (.v d)).set j (.v e))
  | _ => .bad
theorem ds_par {i j : Nat} {x y : Str} {a b : Expr} {m : Env → Res (List D)} {px py pt pos : Pos} {kt k2 pt2} (c : Cd X) (hN : X.N.Nodup) (hi : X.N[i]? = some x) (hj : X.N[j]? = some y) (hij : i ≠ j)
    (hx : X.env.scope.names.lookup x = some .local) (hy : X.env.scope.names.lookup y = some .local) (ha : DL X W [a, b] m)
    (hw : swappedStores [.Tuple [.Name x px, .Name y py] kt pt] (.Tuple [a, b] k2 pt2) X.env = pure (some [x, y]))
    (hs : swapsWithSole [.Tuple [.Name x px, .Name y py] kt pt] (.Tuple [a, b] k2 pt2) pos.line X.env = pure false := by rfl) :
    DS X W (.Assign [.Tuple [.Name x px, .Name y py] kt pt] (.Tuple [a, b] k2 pt2) pos) (sPar i j m) := by
  obtain ⟨t, p, s⟩ := ha
  refine ⟨_, ps_par c.calm hN hi hj hij hx hy p hw hs, fun B M H ρ σ E r h => s B M H ρ σ _ r (PostS.out h fun ds ρ1 M1 H1 vs x1 r1 q1 k1 => ?_)⟩
  match ds, q1, k1 with
  | [], _, k1 => exact k1.elim
  | [d], _, k1 => exact k1.elim
  | [d, e], q1, k1 =>
    cases q1 with
    | cons a1 q2 =>
      cases q2 with
      | cons a2 q3 =>
        cases q3
        exact ⟨_, _, rfl, k1 M1 H1 _ Ext.refl ((r1.setV i a1).setV j a2)⟩
  | _ :: _ :: _ :: _, _, k1 => exact k1.elim
def sPar3 (i j l : Nat) (m : Env → Res (List D)) : SM := fun ρ => (m ρ).out fun ds ρ1 => match ds with
  | [d, e, f] => .nx (((ρ1.set i (.v d)).set j (.v e)).set l (.v f))
  | _ => .bad
theorem ds_par3 {i j l : Nat} {x y z : Str} {a b c : Expr} {m : Env → Res (List D)} {px py pz pt pos : Pos} {kt k2 pt2} (cd : Cd X) (hN : X.N.Nodup) (hi : X.N[i]? = some x) (hj : X.N[j]? = some y) (hl : X.N[l]? = some z) (hij : i ≠ j) (hil : i ≠ l) (hjl : j ≠ l)
    (hx : X.env.scope.names.lookup x = some .local) (hy : X.env.scope.names.lookup y = some .local) (hz : X.env.scope.names.lookup z = some .local) (ha : DL X W [a, b, c] m)
    (hw : swappedStores [.Tuple [.Name x px, .Name y py, .Name z pz] kt pt] (.Tuple [a, b, c] k2 pt2) X.env = pure (some [x, y, z]))
    (hs : swapsWithSole [.Tuple [.Name x px, .Name y py, .Name z pz] kt pt] (.Tuple [a, b, c] k2 pt2) pos.line X.env = pure false := by rfl) :
    DS X W (.Assign [.Tuple [.Name x px, .Name y py, .Name z pz] kt pt] (.Tuple [a, b, c] k2 pt2) pos) (sPar3 i j l m) := by
  obtain ⟨t, p, s⟩ := ha
  refine ⟨_, ps_par3 cd.calm hN hi hj hl hij hil hjl hx hy hz p hw hs, fun B M H ρ σ E r h => s B M H ρ σ _ r (PostS.out h fun ds ρ1 M1 H1 vs x1 r1 q1 k1 => ?_)⟩
  match ds, q1, k1 with
  | [], _, k1 => exact k1.elim
  | [d], _, k1 => exact k1.elim
  | [d, e], _, k1 => exact k1.elim
  | [d, e, f], q1, k1 =>
    cases q1 with
    | cons a1 q2 =>
      cases q2 with
      | cons a2 q3 =>
        cases q3 with
        | cons a3 q4 =>
          cases q4
          exact ⟨_, _, _, rfl, k1 M1 H1 _ Ext.refl (((r1.setV i a1).setV j a2).setV l a3)⟩
  | _ :: _ :: _ :: _ :: _, _, k1 => exact k1.elim

/-! ### what is walked -/
/-- the iterator yields ds, whatever the heap has become meanwhile -/
def ItOk (K : PySem.W.Frag) (M0 : Addr → Prop) (H0 : Hp) (J : It) (ds : List D) : Prop :=
  ∀ (M : Addr → Prop) (H : Hp), Ext M0 H0 M H → (∀ i, ds.length ≤ i → J.stop i H) ∧ ∀ i d, ds[i]? = some d → J.go i H ∧ ∀ x H', J.yld i H x H' → (∀ b o, H b = some o → H' b = some o) ∧ Rp K M H' d x
def DI (X : Cx) (W : WX) (tg e : Expr) (mi : Env → Res (List D)) : Prop := ∃ wi, PI X tg e wi ∧
  ∀ (B : Base) (M : Addr → Prop) (H : Hp) (ρ : Env) (σ : St) (Q : It → Hp → Prop), Rep X.K B M H ρ σ → Post X B W (fun M' H' _ ds J => ItOk X.K M' H' J ds ∧ ds.length ≤ sizeLine) M H σ (mi ρ) Q → wi σ H Q
/-- a list, a tuple, a text -/
def iAny (K : PySem.W.Frag) (te : TE) : TI := fun σ H R => te σ H fun x H1 => (∃ a, x = .ref a ∧ (∃ xs, SqL K H1 a xs) ∧ R (Itl K a) H1) ∨ ((∃ a, x = .ref a ∧ (∃ xs, SqT K H1 a xs) ∧ R (Itt K a) H1) ∨ ∃ z, x = .str z ∧ R (Its z) H1)
theorem pi_any {tg l : Expr} {tl : TE} (hl : PE X l tl) : PI X tg l (iAny X.K tl) := by
  refine ⟨fun pins s σ H R I h => ?_⟩
  refine thn (hl.run pins s σ H _ I h) fun v s1 ⟨x, H1, I1, r1, q1⟩ => ?_
  rcases q1 with ⟨a, e, ⟨xs, hq⟩, q⟩ | ⟨a, e, ⟨xs, hq⟩, q⟩ | ⟨z, e, q⟩
  · subst e
    cases r1
    obtain ⟨its, rv, p, hz⟩ := I1.list hq
    refine wpAny_pyIter_list p.isList ?_
    refine ⟨s1.heap.objs.size, [s1.heap.objs.size], _, _, H1, rfl, I1.kept (t' := s1.toks) fun b o e => Heap.get?_push_of_some _ e, turn_list a _, ⟨_, Heap.get?_push_size _ rfl, rfl, rfl⟩, fun b hb => ?_, q⟩
    have e : b = s1.heap.objs.size := by simpa using hb
    subst e
    exact I1.fpOk (Nat.le_refl _) (I1.hok.fresh (Nat.le_refl _))
  · subst e
    cases r1
    obtain ⟨its, rv, p, hz⟩ := I1.tuple hq
    refine wpAny_pyIter_tuple (show s1.heap.IsTuple a its.toArray from p) ?_
    refine ⟨s1.heap.objs.size, [s1.heap.objs.size], _, _, H1, rfl, I1.kept (t' := s1.toks) fun b o e => Heap.get?_push_of_some _ e, turn_tuple a _, ⟨_, Heap.get?_push_size _ rfl, rfl, rfl⟩, fun b hb => ?_, q⟩
    have e : b = s1.heap.objs.size := by simpa using hb
    subst e
    exact I1.fpOk (Nat.le_refl _) (I1.hok.fresh (Nat.le_refl _))
  · subst e
    obtain ⟨t, rfl⟩ := r1
    cases ha : z.cps.all (· < 128)
    · exact wpAny_pyIter_wide ha (pi_one (tk := s1.toks) I1 _ (turn_str _ z t "str_iterator" (.inr rfl)) ⟨_, Heap.get?_push_size _ rfl, rfl, rfl⟩ q)
    · exact wpAny_pyIter_ascii ha (pi_one (tk := s1.toks) I1 _ (turn_str _ z t "str_ascii_iterator" (.inl rfl)) ⟨_, Heap.get?_push_size _ rfl, rfl, rfl⟩ q)
def itemsD : D → Option (List D)
  | .tup ds => some ds
  | .lst ds => some ds
  | .scr xs => some (xs.map .int)
  | .str z => some (z.cps.toList.map fun c => .str ⟨#[c]⟩)
  | _ => none
def iVal (m : EM) : Env → Res (List D) := fun ρ => (m ρ).bind fun d ρ1 => ofO (itemsD d) ρ1
theorem itOk_list {K : PySem.W.Frag} {M : Addr → Prop} {H : Hp} {a : Addr} {ds : List D} {vs : List V} (h : H a = some (.lst vs)) (n : ¬ M a) (r : RpL K M H ds vs) : ItOk K M H (Itl K a) ds := fun M' H' x => by
  have h' : SqL K H' a vs := SqL.of (x _ _ h (.inl n)).1
  refine ⟨fun i hi => ⟨vs, h', by rw [← r.length]; exact hi⟩, fun i d hd => ?_⟩
  obtain ⟨v, hv, rv⟩ := r.get hd
  refine ⟨⟨vs, v, h', hv⟩, fun y H2 ⟨e, hy⟩ => ?_⟩
  subst e
  have e2 := hy vs h'
  rw [hv] at e2
  cases e2
  exact ⟨fun _ _ z => z, Rp.ext x rv⟩
theorem itOk_tuple {K : PySem.W.Frag} {M : Addr → Prop} {H : Hp} {a : Addr} {ds : List D} {vs : List V} (h : SqT K H a vs) (r : RpL K M H ds vs) : ItOk K M H (Itt K a) ds := fun M' H' x => by
  have h' : SqT K H' a vs := x.sqT h
  refine ⟨fun i hi => ⟨vs, h', by rw [← r.length]; exact hi⟩, fun i d hd => ?_⟩
  obtain ⟨v, hv, rv⟩ := r.get hd
  refine ⟨⟨vs, v, h', hv⟩, fun y H2 ⟨e, hy⟩ => ?_⟩
  subst e
  have e2 := hy vs h'
  rw [hv] at e2
  cases e2
  exact ⟨fun _ _ z => z, Rp.ext x rv⟩
theorem itOk_scr {K : PySem.W.Frag} {M : Addr → Prop} {H : Hp} {a : Addr} {xs : List Int} (h : SqS K H a xs) : ItOk K M H (Itl K a) (xs.map .int) := fun M' H' x => by
  have h' : SqL K H' a (xs.map V.int) := (x.sqS h).sql
  refine ⟨fun i hi => ⟨_, h', by rw [List.length_map] at hi ⊢; exact hi⟩, fun i d hd => ?_⟩
  rw [List.getElem?_map] at hd
  cases e : xs[i]? with
  | none => rw [e] at hd; cases hd
  | some n =>
    rw [e] at hd
    cases hd
    have hv : (xs.map V.int)[i]? = some (.int n) := by rw [List.getElem?_map, e]; rfl
    refine ⟨⟨_, _, h', hv⟩, fun y H2 ⟨e, hy⟩ => ?_⟩
    subst e
    have e2 := hy _ h'
    rw [hv] at e2
    cases e2
    exact ⟨fun _ _ z => z, .int n⟩
theorem itOk_str {K : PySem.W.Frag} {M : Addr → Prop} {H : Hp} {z : Str} (g : StrG z) : ItOk K M H (Its z) (z.cps.toList.map fun c => .str ⟨#[c]⟩) := fun M' H' x => by
  refine ⟨fun i hi => by rw [List.length_map, Array.length_toList] at hi; exact hi, fun i d hd => ?_⟩
  rw [List.getElem?_map] at hd
  cases e : z.cps.toList[i]? with
  | none => rw [e] at hd; cases hd
  | some c =>
    rw [e] at hd
    cases hd
    have e3 : z.cps[i]? = some c := by rw [← e]; simp
    refine ⟨by have := (List.getElem?_eq_some_iff.mp e).1; rw [Array.length_toList] at this; exact this, fun y H2 ⟨e1, c', hc, hy⟩ => ?_⟩
    rw [e3] at hc
    cases hc
    subst e1 hy
    exact ⟨fun _ _ z => z, .str (strG_sub (z := z) g (by
      show 1 ≤ _
      exact Nat.lt_of_le_of_lt (Nat.zero_le i) (List.getElem?_eq_some_iff.mp e).1) fun c2 h2 => by
        have : c2 = c := by simpa using h2
        rw [this]; exact List.mem_of_getElem? e)⟩
theorem di_val {tg e : Expr} {m : EM} (h : DE X W e m) : DI X W tg e (iVal m) := by
  obtain ⟨t, p, s⟩ := h
  refine ⟨_, pi_any p, fun B M H ρ σ Q rp k => s B M H ρ σ _ rp (Post.seq k fun d ρ1 M1 H1 v x1 r1 q1 k1 => ?_)⟩
  cases d with
  | tup ds =>
    cases q1 with
    | tup l h1 h2 => exact .inr (.inl ⟨_, rfl, ⟨_, h1⟩, k1 M1 H1 _ Ext.refl r1 ⟨itOk_tuple h1 h2, l⟩⟩)
  | lst ds =>
    cases q1 with
    | lst l n h1 h2 => exact .inl ⟨_, rfl, ⟨_, SqL.of h1⟩, k1 M1 H1 _ Ext.refl r1 ⟨itOk_list h1 n h2, l⟩⟩
  | scr xs =>
    cases q1 with
    | scr l h1 => exact .inl ⟨_, rfl, ⟨_, h1.sql⟩, k1 M1 H1 _ Ext.refl r1 ⟨itOk_scr h1, by rw [List.length_map]; exact l⟩⟩
  | str z =>
    cases q1 with
    | str g => exact .inr (.inr ⟨_, rfl, k1 M1 H1 _ Ext.refl r1 ⟨itOk_str g, by rw [List.length_map, Array.length_toList]; exact g.1⟩⟩)
  | _ => exact k1.elim
def rngD (lo : Int) (n : Nat) : List D := (List.range n).map fun i => .int (lo + (i : Nat))
theorem itOk_rng {K : PySem.W.Frag} {M : Addr → Prop} {H : Hp} {lo : Int} {n : Nat} : ItOk K M H (Itr lo n) (rngD lo n) := fun M' H' x => by
  refine ⟨fun i hi => by unfold rngD at hi; rw [List.length_map, List.length_range] at hi; exact hi, fun i d hd => ?_⟩
  unfold rngD at hd
  rw [List.getElem?_map] at hd
  cases e : (List.range n)[i]? with
  | none => rw [e] at hd; cases hd
  | some j =>
    rw [e] at hd
    cases hd
    obtain ⟨hl, ej⟩ := List.getElem?_eq_some_iff.mp e
    rw [List.getElem_range] at ej
    subst ej
    refine ⟨by rw [List.length_range] at hl; exact hl, fun y H2 ⟨e1, hy⟩ => ?_⟩
    subst e1 hy
    exact ⟨fun _ _ z => z, .int _⟩
def rng1 (d : D) : Option (List D) := match d with
  | .int j => if j ≤ 16777216 ∧ -(2 ^ 62) ≤ j then some (rngD 0 j.toNat) else none
  | _ => none
def rng2 (d e : D) : Option (List D) := match d, e with
  | .int i, .int j => if -(2 ^ 62) ≤ i ∧ i < 2 ^ 62 ∧ -(2 ^ 62) ≤ j ∧ j < 2 ^ 62 ∧ j - i ≤ 16777216 then some (rngD i (j - i).toNat) else none
  | _, _ => none
def iRange1 (m : EM) : Env → Res (List D) := fun ρ => (m ρ).bind fun d ρ1 => ofO (rng1 d) ρ1
def iRange2 (m1 m2 : EM) : Env → Res (List D) := fun ρ => (m1 ρ).bind fun d ρ1 => (m2 ρ1).bind fun e ρ2 => ofO (rng2 d e) ρ2
theorem di_range1 {tg a : Expr} {m : EM} {p pos : Pos} (hg : Gl X "range") (hm : X.mg "range" = none) (h : DE X W a m) (hs : starEach [a] X.env = [(false, eval a X.env)] := by rfl) (hs2 : starEach [a] X.env = (false, eval a X.env) :: starEach [] X.env := by rfl) : DI X W tg (.Call (.Name "range" p) [a] [] pos) (iRange1 m) := by
  obtain ⟨t, pt, s⟩ := h
  refine ⟨_, pi_range1 hg hm (pa_cons pt pa_nil hs2) hs, fun B M H ρ σ Q rp k => s B M H ρ σ _ rp (Post.seq k fun d ρ1 M1 H1 v x1 r1 q1 k1 => ?_)⟩
  cases d with
  | int j =>
    cases q1
    unfold rng1 at k1
    simp only at k1
    split at k1
    · rename_i hc
      exact ⟨j, rfl, hc.2, by omega, k1 M1 H1 _ Ext.refl r1 ⟨itOk_rng, by unfold rngD; rw [List.length_map, List.length_range, sizeLine_eq]; omega⟩⟩
    · exact k1.elim
  | _ => exact k1.elim
theorem di_range2 {tg a b : Expr} {m1 m2 : EM} {p pos : Pos} (hg : Gl X "range") (hm : X.mg "range" = none) (h : DE X W a m1) (h2 : DE X W b m2) (hs : starEach [a, b] X.env = [(false, eval a X.env), (false, eval b X.env)] := by rfl) (hs2 : starEach [b] X.env = [(false, eval b X.env)] := by rfl)
    (hs3 : starEach [a, b] X.env = (false, eval a X.env) :: starEach [b] X.env := by rfl) (hs4 : starEach [b] X.env = (false, eval b X.env) :: starEach [] X.env := by rfl) : DI X W tg (.Call (.Name "range" p) [a, b] [] pos) (iRange2 m1 m2) := by
  obtain ⟨t, pt, s⟩ := h
  obtain ⟨t2, pt2, s2⟩ := h2
  refine ⟨_, pi_range2 hg hm (pa_cons pt (pa_cons pt2 pa_nil hs4) hs3) hs hs2, fun B M H ρ σ Q rp k => s B M H ρ σ _ rp (Post.seq k fun d ρ1 M1 H1 v x1 r1 q1 k1 => ?_)⟩
  refine s2 B M1 H1 ρ1 σ _ r1 (Post.seq k1 fun e ρ2 M2 H2 v2 x2 r2 q2 k2 => ?_)
  cases d with
  | int i =>
    cases e with
    | int j =>
      cases q1
      cases q2
      unfold rng2 at k2
      simp only at k2
      split at k2
      · rename_i hc
        exact ⟨i, j, rfl, ⟨hc.1, hc.2.1, hc.2.2.1, hc.2.2.2.1⟩, k2 M2 H2 _ Ext.refl r2 ⟨itOk_rng, by unfold rngD; rw [List.length_map, List.length_range, sizeLine_eq]; omega⟩⟩
      · exact k2.elim
    | _ => exact k2.elim
  | _ => exact k2.elim

/-! ### for -/
def forL (g : D → Env → Option Env) (body : SM) : List D → SM
  | [], ρ => .nx ρ
  | d :: ds, ρ => match g d ρ with
    | none => .bad
    | some ρ1 => match body ρ1 with
      | .nx ρ2 => forL g body ds ρ2
      | .ct ρ2 => forL g body ds ρ2
      | .bk ρ2 => .nx ρ2
      | o => o
def sFor (mi : Env → Res (List D)) (g : D → Env → Option Env) (body : SM) : SM := fun ρ => (mi ρ).out fun ds ρ1 => forL g body ds ρ1
theorem ds_for {tg iter : Expr} {body : List Stmt} {mi : Env → Res (List D)} {g : D → Env → Option Env} {mb : SM} {vs : List Nat} {pos : Pos} (c : Cd X) (hp : PassesOwn (model X.prog X.w) X.A X.env X.xe) (hi : DI X W tg iter mi) (hg : DG X tg g vs) (hb : DSs X W body mb)
    (hs : ∀ x, foldedSetIterable iter X.env x = pure x := by intro _; rfl) : DS X W (.For tg iter body [] pos) (sFor mi g mb) := by
  obtain ⟨wi, pi, si⟩ := hi
  obtain ⟨tg', pg, sg⟩ := hg
  obtain ⟨tb, pb, sb⟩ := hb
  refine ⟨_, ps_for hp c.calm pi pg pb hs, fun B M H ρ σ E r h => si B M H ρ σ _ r (PostS.out (α := List D) (β := It) h fun ds ρ1 M1 H1 J x1 r1 q1 k1 => ?_)⟩
  refine ⟨fun i n σ' H' => n = ds.length - i ∧ ∃ M' ρ', Ext M1 H1 M' H' ∧ Rep X.K B M' H' ρ' σ' ∧ PostS X B W M' H' (forL g mb (ds.drop i) ρ') E, ⟨_, rfl, M1, ρ1, Ext.refl, r1, k1⟩, ?_⟩
  rintro i n σ2 H2 ⟨rfl, M2, ρ2, x2, r2, k2⟩
  obtain ⟨stop, go⟩ := q1.1 M2 H2 x2
  cases hd : ds[i]? with
  | none =>
    have hl : ds.length ≤ i := List.getElem?_eq_none_iff.mp hd
    rw [List.drop_eq_nil_of_le hl] at k2
    exact .inl ⟨stop i hl, k2 M2 H2 σ2 Ext.refl r2⟩
  | some d =>
    obtain ⟨hl, e⟩ := List.getElem?_eq_some_iff.mp hd
    rw [List.drop_eq_getElem_cons hl, e] at k2
    obtain ⟨g1, yl⟩ := go i d hd
    refine .inr ⟨g1, fun σ' H' => ∃ M' ρ', Ext M1 H1 M' H' ∧ Rep X.K B M' H' ρ' σ' ∧ PostS X B W M' H' (forL g mb (ds.drop (i + 1)) ρ') E, fun σ' H' z => ⟨ds.length - (i + 1), by omega, rfl, z⟩, fun x H3 hy => ?_⟩
    obtain ⟨keep, rx⟩ := yl x H3 hy
    have xk : Ext M2 H2 M2 H3 := fun b o eb _ => ⟨keep b o eb, fun n => n⟩
    have r3 : Rep X.K B M2 H3 ρ2 σ2 := r2.grow xk keep (fun _ z => z) (fun _ z => .inl z) fun b z => by
      cases q : H2 b with
      | none => exact absurd q (r2.trk b z)
      | some o => rw [keep b o q]; simp
    unfold forL at k2
    cases eg : g d ρ2 with
    | none => simp only [eg] at k2; exact k2.elim
    | some ρ3 =>
      simp only [eg] at k2
      refine sg B M2 H3 ρ2 ρ3 σ2 d x _ r3 rx eg fun σ3 r4 _ => sb B M2 H3 ρ3 σ3 _ r4 ?_
      have k3 := PostS.shift xk k2
      have next : ∀ ρ4, PostS X B W M2 H3 (forL g mb (ds.drop (i + 1)) ρ4) E → ∀ (M' : Addr → Prop) (H' : Hp) (σ' : St), Ext M2 H3 M' H' → Rep X.K B M' H' ρ4 σ' →
          ∃ M' ρ', Ext M1 H1 M' H' ∧ Rep X.K B M' H' ρ' σ' ∧ PostS X B W M' H' (forL g mb (ds.drop (i + 1)) ρ') E := fun ρ4 k4 M' H' σ' x4 r5 => ⟨M', ρ4, x2.trans (xk.trans x4), r5, PostS.shift x4 k4⟩
      cases em : mb ρ3 with
      | nx ρ4 => rw [em] at k3; exact next ρ4 k3
      | ct ρ4 => rw [em] at k3; exact next ρ4 k3
      | bk ρ4 => rw [em] at k3; exact k3
      | rt d' ρ4 => rw [em] at k3; exact k3
      | rtF d' ρ4 => rw [em] at k3; exact k3
      | exc x' ρ4 => rw [em] at k3; exact k3
      | bad => rw [em] at k3; exact k3

/-! ### while -/
def whileL (c : TM) (body : SM) : Nat → SM
  | 0, _ => .bad
  | n + 1, ρ => match c ρ with
    | .bad => .bad
    | .exc x ρ1 => .exc x ρ1
    | .ok false ρ1 => .nx ρ1
    | .ok true ρ1 => match body ρ1 with
      | .nx ρ2 => whileL c body n ρ2
      | .ct ρ2 => whileL c body n ρ2
      | .bk ρ2 => .nx ρ2
      | o => o
theorem ds_while {test : Expr} {body : List Stmt} {mc : TM} {mb : SM} {pos : Pos} (n : Nat) (hp : PassesOwn (model X.prog X.w) X.A X.env X.xe) (hc : DT X W test mc) (hb : DSs X W body mb) : DS X W (.While test body [] pos) (whileL mc mb n) := by
  obtain ⟨tc, pc, sc⟩ := hc
  obtain ⟨tb, pb, sb⟩ := hb
  refine ⟨_, ps_while hp pc pb, fun B M H ρ σ E r h => ?_⟩
  refine ⟨fun k σ' H' => ∃ M' ρ', Rep X.K B M' H' ρ' σ' ∧ PostS X B W M' H' (whileL mc mb k ρ') E, ⟨n, M, ρ, r, h⟩, ?_⟩
  rintro k σ2 H2 ⟨M2, ρ2, r2, k2⟩
  cases k with
  | zero => exact k2.elim
  | succ k =>
    unfold whileL at k2
    refine sc B M2 H2 ρ2 σ2 _ r2 ?_
    cases ec : mc ρ2 with
    | bad => rw [ec] at k2; exact k2
    | exc x ρ3 => rw [ec] at k2; exact fun M' H' c dx x' r' q => k2 M' H' σ2 c dx x' r' q
    | ok b ρ3 =>
      rw [ec] at k2
      intro M3 H3 b' x3 r3 eb
      cases eb
      cases b with
      | false => exact iteF (k2 M3 H3 σ2 x3 r3)
      | true =>
        refine iteT ⟨fun σ' H' => ∃ M' ρ', Rep X.K B M' H' ρ' σ' ∧ PostS X B W M' H' (whileL mc mb k ρ') E, fun σ' H' z => ⟨k, Nat.lt_succ_self k, z⟩, sb B M3 H3 ρ3 σ2 _ r3 ?_⟩
        have k3 := PostS.shift x3 k2
        simp only at k3
        cases em : mb ρ3 with
        | nx ρ4 => rw [em] at k3; exact fun M' H' σ' x4 r5 => ⟨M', ρ4, r5, PostS.shift x4 k3⟩
        | ct ρ4 => rw [em] at k3; exact fun M' H' σ' x4 r5 => ⟨M', ρ4, r5, PostS.shift x4 k3⟩
        | bk ρ4 => rw [em] at k3; exact k3
        | rt d' ρ4 => rw [em] at k3; exact k3
        | rtF d' ρ4 => rw [em] at k3; exact k3
        | exc x' ρ4 => rw [em] at k3; exact k3
        | bad => rw [em] at k3; exact k3
end
end NV

set_option Elab.async false
set_option linter.all false
set_option maxRecDepth 100000
set_option maxHeartbeats 4000000
/-! Core6: comprehensions. -/
namespace NV
open PySem PySem.Spec PyProof.Rows L2

/-! ### one reading for all blocks -/
section
variable {X : Cx} {W : WX}
def tCan (X : Cx) (W : WX) (m : EM) : TE := fun σ H Q => ∃ B M ρ, Rep X.K B M H ρ σ ∧ Post X B W (RelE X.K) M H σ (m ρ) Q
def ttCan (X : Cx) (W : WX) (m : TM) : TT := fun σ H Q => ∃ B M ρ, Rep X.K B M H ρ σ ∧ Post X B W RelT M H σ (m ρ) Q
def tgCan (X : Cx) (g : D → Env → Option Env) (vs : List Nat) : TG := fun v σ H Q => ∃ B M ρ ρ' d, Rep X.K B M H ρ σ ∧ Rp X.K M H d v ∧ g d ρ = some ρ' ∧ ∀ σ', Rep X.K B M H ρ' σ' → Only vs σ σ' → Q σ' H
theorem can_e {e : Expr} {m : EM} (h : DE X W e m) : PE X e (tCan X W m) := by
  obtain ⟨t, p, s⟩ := h
  exact ⟨fun pins s' σ H Q I ⟨B, M, ρ, r, k⟩ => p.run pins s' σ H Q I (s B M H ρ σ Q r k)⟩
theorem can_t {e : Expr} {m : TM} (h : DT X W e m) : PT X e (ttCan X W m) := by
  obtain ⟨t, p, s⟩ := h
  exact ⟨fun pins s' σ H Q I ⟨B, M, ρ, r, k⟩ => p.run pins s' σ H Q I (s B M H ρ σ Q r k)⟩
theorem can_g {e : Expr} {g : D → Env → Option Env} {vs : List Nat} (h : DG X e g vs) : PG X e (tgCan X g vs) := by
  obtain ⟨t, p, s⟩ := h
  exact ⟨fun pins s' σ H v u Q I rv ⟨B, M, ρ, ρ', d, r, q, e, k⟩ => p.run pins s' σ H v u Q I rv (s B M H ρ ρ' σ d v Q r q e k)⟩
/-- a clause's tests -/
def DTs (X : Cx) (W : WX) (ifs : List Expr) (m : TM) : Prop := PTs X ifs (ttCan X W m)
def tYesM : TM := fun ρ => .ok true ρ
theorem dts_nil : DTs X W [] tYesM := ⟨fun pins s σ H Q I ⟨B, M, ρ, r, k⟩ => wpAny_tests_nil ⟨H, I, k M H true Ext.refl r rfl⟩⟩
theorem dts_one {c : Expr} {m : TM} (h : DT X W c m) : DTs X W [c] m := pts_one (can_t h)
end

/-! ### the block's own names -/
def wipeE (ρ : Env) : List Nat → Env
  | [] => ρ
  | v :: vs => (wipeE ρ vs).set v .no
def keepV : Slot → Slot
  | .v d => .v d
  | _ => .no
/-- .. as they were ahead of it -/
def backE (ρ1 : Env) : List Nat → Env → Env
  | [], ρ => ρ
  | v :: vs, ρ => (backE ρ1 vs ρ).set v (keepV (ρ1[v]?.getD .no))
def backS (σ1 : St) : List Nat → St → St
  | [], σ => σ
  | v :: vs, σ => (backS σ1 vs σ).set v (σ1[v]?.join)
section
variable {K : PySem.W.Frag} {B : Base} {M M' : Addr → Prop} {H H' : Hp} {ρ ρ1 : Env} {σ σ1 : St}
theorem Rep.wipe (r : Rep K B M H ρ σ) : ∀ vs : List Nat, Rep K B M H (wipeE ρ vs) (wipe σ vs)
  | [] => r
  | v :: vs => (r.wipe vs).setNo v none
theorem wipe_ext {σ σ2 : St} {vs : List Nat} (h : Only vs (L2.wipe σ vs) σ2) : L2.wipe σ2 vs = L2.wipe σ vs := by
  obtain ⟨hl, h⟩ := h
  rw [wipe_length] at hl
  have at_ : ∀ (s : St) (us : List Nat) (j : Nat), (L2.wipe s us)[j]? = if j ∈ us then (if j < s.length then some none else none) else s[j]? := by
    intro s us j
    induction us with
    | nil => simp [L2.wipe]
    | cons u us ih =>
      unfold L2.wipe
      by_cases e : j = u
      · subst e
        by_cases hj : j < s.length
        · rw [List.getElem?_set_self (by rw [wipe_length]; exact hj)]
          simp [hj]
        · rw [List.getElem?_eq_none (by simp [wipe_length]; omega)]
          simp [hj]
      · rw [List.getElem?_set_ne (Ne.symm e), ih]
        simp [e]
  apply List.ext_getElem?
  intro j
  rw [at_, at_]
  by_cases hj : j ∈ vs
  · rw [if_pos hj, if_pos hj, hl]
  · rw [if_neg hj, if_neg hj, h j hj, at_, if_neg hj]
theorem back_wipe {σ : St} : ∀ vs : List Nat, backS σ vs (L2.wipe σ vs) = σ := by
  intro vs
  have at_ : ∀ (s : St) (us : List Nat), (∀ j, j ∉ us → s[j]? = σ[j]?) → s.length = σ.length → (backS σ us s).length = σ.length ∧ ∀ j, (backS σ us s)[j]? = σ[j]? ∨ (j ∉ us ∧ False) := by
    intro s us h hl
    have hh : ∀ us' : List Nat, (backS σ us' s).length = σ.length := by
      intro us'
      induction us' with
      | nil => exact hl
      | cons u us' ih => unfold backS; rw [List.length_set]; exact ih
    refine ⟨hh us, fun j => .inl ?_⟩
    have key : ∀ us' : List Nat, (backS σ us' s)[j]? = if j ∈ us' then σ[j]? else s[j]? := by
      intro us'
      induction us' with
      | nil => simp [backS]
      | cons u us' ih =>
        unfold backS
        by_cases e : j = u
        · subst e
          by_cases hj : j < σ.length
          · rw [List.getElem?_set_self (by rw [hh]; exact hj)]
            simp [List.getElem?_eq_getElem hj]
          · rw [List.getElem?_eq_none (by simp [hh]; omega), List.getElem?_eq_none (by omega)]
            simp
        · rw [List.getElem?_set_ne (Ne.symm e), ih]
          simp [e]
    rw [key]
    by_cases hj : j ∈ us
    · rw [if_pos hj]
    · rw [if_neg hj, h j hj]
  obtain ⟨h1, h2⟩ := at_ (L2.wipe σ vs) vs (fun j hj => wipe_out hj) (wipe_length _ _)
  exact List.ext_getElem? fun j => (h2 j).elim id fun z => z.2.elim
theorem Rep.back (r1 : Rep K B M H ρ1 σ1) (x : Ext M H M' H') : ∀ (vs : List Nat) {ρ : Env} {σ : St}, Rep K B M' H' ρ σ → Rep K B M' H' (backE ρ1 vs ρ) (backS σ1 vs σ)
  | [], _, _, r => r
  | v :: vs, ρ, σ, r => by
    have ih := r1.back x vs r
    unfold backE backS
    cases e : ρ1[v]? with
    | none => exact ih.setNo v _
    | some s =>
      cases s with
      | v d =>
        obtain ⟨w, e1, q⟩ := r1.slot v _ e
        rw [e1]
        exact ih.setV v (Rp.ext x q)
      | _ => exact ih.setNo v _
/-- an owned object that no slot holds is written -/
theorem Rep.writeAnon (r : Rep K B M H ρ σ) {a : Addr} {o u : HO} (m : M a) (e : H a = some u) (an : Anon ρ σ a) (hb : B.H a = none) (np : ∀ p ∈ B.pr, p.1 ≠ a) (im : ¬ Imm u) : Rep K B M (upd H a o) ρ σ := by
  have hx : Ext M H M (upd H a o) := Ext.write m e im
  refine r.change (fun b ob h1 _ h3 => ?_) (fun b h => ?_) (fun _ h => h) (fun _ h => .inl h) (fun b h => ?_) rfl (fun p hp q => ?_) fun i s hi => ⟨(r.slot i s hi).ext hx fun b ho hv mb => ⟨mb, ?_⟩, s, hi, rfl⟩
  · rw [upd_ne fun z => by subst z; rw [hb] at h1; cases h1]; exact h3
  · by_cases z : b = a
    · rw [z, upd_same]; simp
    · rw [upd_ne z]; exact h
  · by_cases z : b = a
    · rw [z, upd_same]; simp
    · rw [upd_ne z]; exact r.trk b h
  · rw [upd_ne (np p hp)]; exact q
  · exact upd_ne fun z => by subst z; exact an i s hi ho (join_of hv)
/-- meanwhile a holds o -/
def Base.with (B : Base) (a : Addr) (o : HO) : Base := { B with pr := (a, o) :: B.pr }
theorem Rep.prot (r : Rep K B M H ρ σ) {a : Addr} {o : HO} (m : M a) (e : H a = some o) (an : Anon ρ σ a) : Rep K (B.with a o) M H ρ σ :=
  ⟨r.keep, r.old, r.sub, r.new, r.trk, r.len, r.slot, r.apart, fun p hp => by
    rcases List.mem_cons.mp hp with z | z
    · subst z; exact ⟨e, m, an⟩
    · exact r.pr p z⟩
theorem Rep.unprot {a : Addr} {o : HO} (r : Rep K (B.with a o) M H ρ σ) : Rep K B M H ρ σ ∧ M a ∧ H a = some o ∧ Anon ρ σ a :=
  ⟨⟨r.keep, r.old, r.sub, r.new, r.trk, r.len, r.slot, r.apart, fun p hp => r.pr p (List.mem_cons_of_mem _ hp)⟩, (r.pr _ List.mem_cons_self).2.1, (r.pr _ List.mem_cons_self).1, (r.pr _ List.mem_cons_self).2.2⟩
theorem Anon.wipe {a : Addr} (h : Anon ρ σ a) : ∀ vs : List Nat, Anon (wipeE ρ vs) (L2.wipe σ vs) a
  | [] => h
  | v :: vs => fun i s hi ho hv => by
    unfold wipeE at hi
    unfold L2.wipe at hv
    by_cases e : i = v
    · subst e
      by_cases hl : i < (wipeE ρ vs).length
      · rw [List.getElem?_set_self hl] at hi; cases hi; cases ho
      · rw [List.getElem?_eq_none (by simpa using hl)] at hi; cases hi
    · rw [List.getElem?_set_ne (Ne.symm e)] at hi hv
      exact h.wipe vs i s hi ho hv
end

/-! ### [e for x in xs if t] -/
def Res.noexc {α : Type} : Res α → Res α
  | .exc _ _ => .bad
  | r => r
def compL (g : D → Env → Option Env) (mt : TM) (me : EM) (vs : List Nat) : List D → List D → Env → Res (List D)
  | [], acc, ρ => .ok acc ρ
  | d :: ds, acc, ρ => match g d (wipeE ρ vs) with
    | none => .bad
    | some ρ2 => (mt ρ2).noexc.bind fun b ρ3 => if b then (me ρ3).noexc.bind fun z ρ4 => compL g mt me vs ds (acc ++ [z]) ρ4 else compL g mt me vs ds acc ρ3
def eComp (mi : Env → Res (List D)) (g : D → Env → Option Env) (mt : TM) (me : EM) (vs : List Nat) : EM := fun ρ => (mi ρ).bind fun ds ρ1 => (compL g mt me vs ds [] ρ1).bind fun acc ρe => .ok (.lst acc) (backE ρ1 vs (wipeE ρe vs))
section
variable {X : Cx} {W : WX}
theorem comp_sat {wi : TI} {mi : Env → Res (List D)} {g : D → Env → Option Env} {mt : TM} {me : EM} {vs : List Nat}
    (si : ∀ (B : Base) (M : Addr → Prop) (H : Hp) (ρ : Env) (σ : St) (Q : It → Hp → Prop), Rep X.K B M H ρ σ → Post X B W (fun M' H' _ ds J => ItOk X.K M' H' J ds ∧ ds.length ≤ sizeLine) M H σ (mi ρ) Q → wi σ H Q) :
    Sat X W (fun B σ => RelF X.K B σ) (tLc wi (tgCan X g vs) (ttCan X (fun _ _ _ _ => False) mt) (tCan X (fun _ _ _ _ => False) me) vs) (eComp mi g mt me vs) := by
  intro B M H ρ σ Q rp k
  refine si B M H ρ σ _ rp (Post.seq k fun ds ρ1 M1 H1 J x1 r1 q1 k1 => ?_)
  intro Da hD
  have hbD := r1.base_new (X := X) hD
  have npD := r1.pr_new (X := X) hD
  obtain ⟨T, hT⟩ : ∃ T, T = compL g mt me vs ds [] ρ1 := ⟨_, rfl⟩
  refine ⟨fun i n H' => n = ds.length - i ∧ i ≤ ds.length ∧ ∃ M' ρ' acc accV, Ext M1 H1 M' H' ∧ M' Da ∧ H' Da = some (.lst accV) ∧ RpL X.K M' H' acc accV ∧ acc.length ≤ i ∧ Rep X.K B M' H' (wipeE ρ' vs) (L2.wipe σ vs) ∧
    Anon (wipeE ρ' vs) (L2.wipe σ vs) Da ∧ Post X B W (fun _ _ _ _ (_ : Unit) => True) M' H' σ (compL g mt me vs (ds.drop i) acc ρ') (fun _ _ => True) ∧
    (∀ acc' ρe, compL g mt me vs (ds.drop i) acc ρ' = .ok acc' ρe → T = .ok acc' ρe), ⟨_, rfl, Nat.zero_le _, fun b => M1 b ∨ b = Da, ρ1, [], [], Ext.newO hD, .inr rfl, upd_same, .nil, Nat.le_refl _, (r1.allocO hD).wipe vs, (r1.anon_new (X := X) hD).wipe vs, ?_, fun _ _ e => hT.trans e⟩, ?_⟩
  · have e0 : ds.drop 0 = ds := rfl
    rw [e0]
    cases e : compL g mt me vs ds [] ρ1 with
    | ok a ρe => exact fun _ _ _ _ _ _ => trivial
    | exc x ρe =>
      have noexc : ∀ (ds acc : List D) (ρ : Env) x ρe, compL g mt me vs ds acc ρ ≠ .exc x ρe := by
        intro ds
        induction ds with
        | nil => intro acc ρ x ρe z; cases z
        | cons d ds ih =>
          intro acc ρ x ρe z
          unfold compL at z
          cases eg : g d (wipeE ρ vs) with
          | none => simp only [eg] at z; cases z
          | some ρ2 =>
            simp only [eg] at z
            cases et : mt ρ2 with
            | bad => simp only [et, Res.noexc, Res.bind] at z; cases z
            | exc _ _ => simp only [et, Res.noexc, Res.bind] at z; cases z
            | ok b ρ3 =>
              simp only [et, Res.noexc, Res.bind] at z
              cases b with
              | false => simp only [Bool.false_eq_true, if_false] at z; exact ih _ _ _ _ z
              | true =>
                simp only [if_true] at z
                cases em : me ρ3 with
                | bad => simp only [em] at z; cases z
                | exc _ _ => simp only [em] at z; cases z
                | ok y ρ4 => simp only [em] at z; exact ih _ _ _ _ z
      exact absurd e (noexc ds [] ρ1 x ρe)
    | bad => rw [e] at k1; exact k1.elim
  · rintro i n H2 ⟨rfl, hi, M2, ρ2, acc, accV, x2, mD, hDa, racc, hacc, r2, an2, pk, back⟩
    obtain ⟨stop, go⟩ := q1.1 M2 H2 x2
    cases hd : ds[i]? with
    | none =>
      have hl : ds.length ≤ i := List.getElem?_eq_none_iff.mp hd
      rw [List.drop_eq_nil_of_le hl] at back
      refine .inl ⟨stop i hl, ?_⟩
      have e := back acc ρ2 rfl
      rw [← hT, e] at k1
      have rb := r1.back x2 vs r2
      rw [back_wipe] at rb
      refine k1 M2 H2 (.ref Da) x2 rb ⟨Da, rfl, ⟨mD, Nat.le_trans hacc (Nat.le_trans hi q1.2), accV, hDa, racc⟩, hbD, ?_, npD⟩
      intro j s hj ho hv
      obtain ⟨a, d, e1, w, _⟩ := (rb.slot j s hj).own ho
      rw [of_join hv] at e1
      cases e1
      -- the slots of the block are values; the others are as they were
      have key : ∀ us : List Nat, ∀ j s, (backE ρ1 us (wipeE ρ2 vs))[j]? = some s → isOwn s = true → (wipeE ρ2 vs)[j]? = some s ∧ j ∉ us := by
        intro us
        induction us with
        | nil => exact fun j s h _ => ⟨h, by simp⟩
        | cons u us ih =>
          intro j s h ho
          unfold backE at h
          by_cases e : j = u
          · subst e
            by_cases hl : j < (backE ρ1 us (wipeE ρ2 vs)).length
            · rw [List.getElem?_set_self hl] at h
              cases h
              cases q : (ρ1[j]?.getD .no) <;> rw [q] at ho <;> cases ho
            · rw [List.getElem?_eq_none (by simpa using hl)] at h; cases h
          · rw [List.getElem?_set_ne (Ne.symm e)] at h
            obtain ⟨a1, a2⟩ := ih j s h ho
            exact ⟨a1, by simp [e, a2]⟩
      obtain ⟨h1, h2⟩ := key vs j s hj ho
      refine an2 j s h1 ho ?_
      rw [wipe_out h2]
      exact hv
    | some d =>
      obtain ⟨hl, e⟩ := List.getElem?_eq_some_iff.mp hd
      rw [List.drop_eq_getElem_cons hl, e] at pk back
      obtain ⟨g1, yl⟩ := go i d hd
      refine .inr ⟨g1, fun H' => i + 1 ≤ ds.length ∧ ∃ M' ρ' acc accV, Ext M1 H1 M' H' ∧ M' Da ∧ H' Da = some (.lst accV) ∧ RpL X.K M' H' acc accV ∧ acc.length ≤ i + 1 ∧ Rep X.K B M' H' (wipeE ρ' vs) (L2.wipe σ vs) ∧
        Anon (wipeE ρ' vs) (L2.wipe σ vs) Da ∧ Post X B W (fun _ _ _ _ (_ : Unit) => True) M' H' σ (compL g mt me vs (ds.drop (i + 1)) acc ρ') (fun _ _ => True) ∧
        (∀ acc' ρe, compL g mt me vs (ds.drop (i + 1)) acc ρ' = .ok acc' ρe → T = .ok acc' ρe), fun H' z => ⟨ds.length - (i + 1), by omega, rfl, z⟩, fun x H3 hy => ?_⟩
      obtain ⟨keep, rx⟩ := yl x H3 hy
      have xk : Ext M2 H2 M2 H3 := fun b o eb _ => ⟨keep b o eb, fun n => n⟩
      have r3 : Rep X.K (B.with Da (.lst accV)) M2 H3 (wipeE ρ2 vs) (L2.wipe σ vs) := (r2.prot mD hDa an2).grow xk keep (fun _ z => z) (fun _ z => .inl z) fun b z => by
        cases q : H2 b with
        | none => exact absurd q (r2.trk b z)
        | some o => rw [keep b o q]; simp
      unfold compL at pk back
      cases eg : g d (wipeE ρ2 vs) with
      | none => simp only [eg] at pk; exact pk.elim
      | some ρ3 =>
        simp only [eg] at pk back
        refine ⟨_, M2, _, ρ3, d, r3, rx, eg, fun σ3 r4 on => ⟨wipe_ext on, _, M2, ρ3, r4, ?_⟩⟩
        cases et : mt ρ3 with
        | bad => simp only [et, Res.noexc, Res.bind] at pk; exact pk.elim
        | exc _ _ => simp only [et, Res.noexc, Res.bind] at pk; exact pk.elim
        | ok b ρ4 =>
          simp only [et, Res.noexc, Res.bind] at pk back
          intro M4 H4 b' x4 r5 eb
          cases eb
          have fin : ∀ (ρ5 : Env) (M5 : Addr → Prop) (H5 : Hp) (acc5 : List D) (accV5 : List V), Ext M2 H2 M5 H5 → M5 Da → H5 Da = some (.lst accV5) → RpL X.K M5 H5 acc5 accV5 → acc5.length ≤ i + 1 → Rep X.K B M5 H5 ρ5 σ3 → Anon ρ5 σ3 Da →
              Post X B W (fun _ _ _ _ (_ : Unit) => True) M2 H2 σ (compL g mt me vs (ds.drop (i + 1)) acc5 ρ5) (fun _ _ => True) → (∀ acc' ρe, compL g mt me vs (ds.drop (i + 1)) acc5 ρ5 = .ok acc' ρe → T = .ok acc' ρe) →
              i + 1 ≤ ds.length ∧ ∃ M' ρ' acc accV, Ext M1 H1 M' H5 ∧ M' Da ∧ H5 Da = some (.lst accV) ∧ RpL X.K M' H5 acc accV ∧ acc.length ≤ i + 1 ∧ Rep X.K B M' H5 (wipeE ρ' vs) (L2.wipe σ vs) ∧
                Anon (wipeE ρ' vs) (L2.wipe σ vs) Da ∧ Post X B W (fun _ _ _ _ (_ : Unit) => True) M' H5 σ (compL g mt me vs (ds.drop (i + 1)) acc ρ') (fun _ _ => True) ∧
                (∀ acc' ρe, compL g mt me vs (ds.drop (i + 1)) acc ρ' = .ok acc' ρe → T = .ok acc' ρe) := by
            intro ρ5 M5 H5 acc5 accV5 x5 m5 h5 ra5 l5 r6 an6 pk5 back5
            have rw5 := r6.wipe vs
            have aw5 := an6.wipe vs
            rw [wipe_ext on] at rw5 aw5
            exact ⟨hl, M5, ρ5, acc5, accV5, x2.trans x5, m5, h5, ra5, l5, rw5, aw5, Post.shift x5 pk5, back5⟩
          cases b with
          | false =>
            simp only [Bool.false_eq_true, if_false] at pk back
            obtain ⟨u1, u2, u3, u4⟩ := r5.unprot
            exact iteF (fin ρ4 M4 H4 acc accV (xk.trans x4) u2 u3 (RpL.ext (xk.trans x4) racc) (Nat.le_succ_of_le hacc) u1 u4 pk back)
          | true =>
            simp only [if_true] at pk back
            refine iteT ⟨_, M4, ρ4, r5, ?_⟩
            cases em : me ρ4 with
            | bad => simp only [em] at pk; exact pk.elim
            | exc _ _ => simp only [em] at pk; exact pk.elim
            | ok z ρ5 =>
              simp only [em] at pk back
              intro M5 H5 zv x5 r6 rz
              obtain ⟨u1, u2, u3, u4⟩ := r6.unprot
              have x25 := (xk.trans x4).trans x5
              have lacc := (RpL.length racc)
              refine ⟨accV, u3, by rw [← lacc]; have := q1.2; omega, ?_⟩
              have xw : Ext M5 H5 M5 (upd H5 Da (.lst (accV ++ [zv]))) := Ext.write u2 u3 fun z => z
              exact fin ρ5 M5 _ (acc ++ [z]) (accV ++ [zv]) (x25.trans xw) u2 upd_same (RpL.append (RpL.ext (x25.trans xw) racc) (.cons (Rp.ext xw rz) .nil)) (by rw [List.length_append]; exact Nat.succ_le_succ hacc)
                (u1.writeAnon u2 u3 u4 hbD npD fun z => z) u4 pk back
theorem df_comp {elt tg iter : Expr} {ifs : List Expr} {scope : Scope} {own : List (Str × Nat)} {pos : Pos} {mi : Env → Res (List D)} {g : D → Env → Option Env} {mt : TM} {me : EM} {vs : List Nat} (c : Cd X) (hN : X.N.Nodup) (hi : DI X W tg iter mi) (ok : BlkOk X.N X.env.scope scope own)
    (hg : ∀ (s : Shared) (H : Hp) (C : Addr) (cl : List (Str × Addr)) (fp : List Addr), DG (X.blk s H scope (compEnvC scope cl C X.env) fp) tg g vs)
    (ht : ∀ (s : Shared) (H : Hp) (C : Addr) (cl : List (Str × Addr)) (fp : List Addr), DTs (X.blk s H scope (compEnvC scope cl C X.env) fp) (fun _ _ _ _ => False) ifs mt)
    (he : ∀ (s : Shared) (H : Hp) (C : Addr) (cl : List (Str × Addr)) (fp : List Addr), DE (X.blk s H scope (compEnvC scope cl C X.env) fp) (fun _ _ _ _ => False) elt me) (ev : own.map (·.2) = vs := by rfl) (hs : ∀ x, foldedSetIterable iter X.env x = pure x := by intro _; rfl) :
    DF X W (.ListComp elt [⟨tg, iter, ifs, 0⟩] scope pos) (eComp mi g mt me vs) := by
  obtain ⟨wi, pi, si⟩ := hi
  subst ev
  exact ⟨_, pe_lc (tt := ttCan X (fun _ _ _ _ => False) mt) c.calm hN pi ok (fun s H C cl fp => can_g (hg s H C cl fp)) (fun s H C cl fp => ht s H C cl fp) (fun s H C cl fp => can_e (he s H C cl fp)) hs, comp_sat si⟩
end
end NV

set_option Elab.async false
set_option linter.all false
set_option maxRecDepth 100000
set_option maxHeartbeats 4000000
/-! Core7: defs and their calls. -/
namespace NV
open PySem PySem.Spec PyProof.Rows L2

/-- what a def does: its answer, what its owned parameters hold then -/
inductive FRes where
  | ok (r : D) (os : List D)
  | okF (r : D) (os : List D)
  | exc (x : Exn) (os : List D)
  | bad

def ArgR (K : PySem.W.Frag) (M : Addr → Prop) (H : Hp) : List Bool → List D → List V → List Addr → Prop
  | [], [], [], [] => True
  | false :: fs, d :: ds, v :: vs, as => Rp K M H d v ∧ ArgR K M H fs ds vs as
  | true :: fs, d :: ds, v :: vs, a :: as => v = .ref a ∧ Ow K M H d a ∧ ArgR K M H fs ds vs as
  | _, _, _, _ => False
def Kept (as : List Addr) (H H' : Hp) : Prop := ∀ b o, H b = some o → b ∉ as → H' b = some o
/-- the promise of a def that does F; fl: which parameters are owned -/
def spF (K : PySem.W.Frag) (mg : Str → Option Value) (fl : List Bool) (F : List D → FRes) : Sp := fun vs H Q E => ∃ (M : Addr → Prop) (ds : List D) (as : List Addr), (∀ b, M b → H b ≠ none) ∧ as.Nodup ∧ ArgR K M H fl ds vs as ∧ match F ds with
  | .ok r os => ∀ H' v, Kept as H H' → Paired (Ow K M H') os as → Rp K M H' r v → Q v H'
  | .okF r os => ∀ H' a, Kept as H H' → H a = none → Paired (Ow K (fun b => M b ∨ b = a) H') os as → Ow K (fun b => M b ∨ b = a) H' r a → Q (.ref a) H'
  | .exc x os => ∀ H' c dx, Kept as H H' → Paired (Ow K M H') os as → ExR K mg M H' x c dx → E c dx H'
  | .bad => False

/-! ### a body -/
def slotsOf : List Bool → List D → Env
  | false :: fs, d :: ds => .v d :: slotsOf fs ds
  | true :: fs, d :: ds => .p d :: slotsOf fs ds
  | _, _ => []
def owns : List Bool → Env → Option (List D)
  | [], _ => some []
  | false :: fs, _ :: ρ => owns fs ρ
  | true :: fs, .p d :: ρ => (owns fs ρ).map fun ds => d :: ds
  | _, _ => none
def fin (fl : List Bool) (f : List D → FRes) (ρ : Env) : FRes := match owns fl ρ with
  | some os => f os
  | none => .bad
def runF (fl : List Bool) (n : Nat) (m : SM) (ds : List D) : FRes := if ds.length = fl.length then match m (slotsOf fl ds ++ List.replicate (n - ds.length) .no) with
  | .nx ρ => fin fl (.ok .non) ρ
  | .rt d ρ => fin fl (.ok d) ρ
  | .rtF d ρ => fin fl (.okF d) ρ
  | .exc x ρ => fin fl (.exc x) ρ
  | _ => .bad else .bad

section
variable {K : PySem.W.Frag} {M M' : Addr → Prop} {H H' : Hp}
theorem ArgR.len : ∀ {fl : List Bool} {ds : List D} {vs : List V} {as : List Addr}, ArgR K M H fl ds vs as → vs.length = fl.length ∧ ds.length = fl.length
  | [], [], [], [], _ => ⟨rfl, rfl⟩
  | false :: fs, d :: ds, v :: vs, as, h => by
    obtain ⟨_, h⟩ := h
    obtain ⟨a, b⟩ := ArgR.len h
    exact ⟨by simp [a], by simp [b]⟩
  | true :: fs, d :: ds, v :: vs, a :: as, h => by
    obtain ⟨_, _, h⟩ := h
    obtain ⟨a, b⟩ := ArgR.len h
    exact ⟨by simp [a], by simp [b]⟩
/-- where the owned parameters stand -/
def paOf : List Bool → List Addr → Nat → Option Addr
  | [], _, _ => none
  | false :: fs, as, 0 => none
  | false :: fs, as, i + 1 => paOf fs as i
  | true :: fs, [], _ => none
  | true :: fs, a :: as, 0 => some a
  | true :: fs, a :: as, i + 1 => paOf fs as i
theorem paOf_mem : ∀ {fl : List Bool} {as : List Addr} {i : Nat} {a : Addr}, paOf fl as i = some a → a ∈ as
  | [], _, _, _, h => by cases h
  | false :: fs, as, 0, _, h => by cases h
  | false :: fs, as, i + 1, _, h => paOf_mem (fl := fs) h
  | true :: fs, [], _, _, h => by cases h
  | true :: fs, b :: as, 0, _, h => by cases h; exact List.mem_cons_self
  | true :: fs, b :: as, i + 1, _, h => List.mem_cons_of_mem _ (paOf_mem (fl := fs) h)
theorem paOf_inj : ∀ {fl : List Bool} {as : List Addr} {i j : Nat} {a : Addr}, as.Nodup → paOf fl as i = some a → paOf fl as j = some a → i = j
  | [], _, _, _, _, _, h, _ => by cases h
  | false :: fs, as, 0, _, _, _, h, _ => by cases h
  | false :: fs, as, i + 1, 0, _, _, _, h => by cases h
  | false :: fs, as, i + 1, j + 1, _, n, h1, h2 => congrArg _ (paOf_inj (fl := fs) n h1 h2)
  | true :: fs, [], _, _, _, _, h, _ => by cases h
  | true :: fs, b :: as, 0, 0, _, _, _, _ => rfl
  | true :: fs, b :: as, 0, j + 1, _, n, h1, h2 => by
    cases h1
    exact absurd (paOf_mem (fl := fs) h2) (List.nodup_cons.mp n).1
  | true :: fs, b :: as, i + 1, 0, _, n, h1, h2 => by
    cases h2
    exact absurd (paOf_mem (fl := fs) h1) (List.nodup_cons.mp n).1
  | true :: fs, b :: as, i + 1, j + 1, _, n, h1, h2 => congrArg _ (paOf_inj (fl := fs) (List.nodup_cons.mp n).2 h1 h2)
theorem ArgR.slot {n : Nat} : ∀ {fl : List Bool} {ds : List D} {vs : List V} {as : List Addr}, ArgR K M H fl ds vs as → ∀ (i : Nat) (s : Slot), (slotsOf fl ds ++ List.replicate n .no)[i]? = some s →
    match s with
    | .no => True
    | .v d => ∃ v, vs[i]? = some v ∧ Rp K M H d v
    | .p d => ∃ a, vs[i]? = some (.ref a) ∧ Ow K M H d a ∧ paOf fl as i = some a
    | .o _ => False
  | [], [], [], [], _, i, s, h => by
    have h : (List.replicate n Slot.no)[i]? = some s := h
    rw [List.getElem?_replicate] at h
    split at h <;> cases h
    trivial
  | false :: fs, d :: ds, v :: vs, as, hh, 0, s, h => by
    cases h
    exact ⟨v, rfl, hh.1⟩
  | false :: fs, d :: ds, v :: vs, as, hh, i + 1, s, h => by
    have q := ArgR.slot (n := n) hh.2 i s (by simpa [slotsOf] using h)
    cases s <;> exact q
  | true :: fs, d :: ds, v :: vs, a :: as, hh, 0, s, h => by
    cases h
    obtain ⟨e, w, _⟩ := hh
    subst e
    exact ⟨a, rfl, w, rfl⟩
  | true :: fs, d :: ds, v :: vs, a :: as, hh, i + 1, s, h => by
    have q := ArgR.slot (n := n) hh.2.2 i s (by simpa [slotsOf] using h)
    cases s <;> exact q
theorem slotsOf_length : ∀ {fl : List Bool} {ds : List D}, ds.length = fl.length → (slotsOf fl ds).length = fl.length
  | [], [], _ => rfl
  | false :: fs, d :: ds, h => by simp [slotsOf, slotsOf_length (fl := fs) (ds := ds) (by simpa using h)]
  | true :: fs, d :: ds, h => by simp [slotsOf, slotsOf_length (fl := fs) (ds := ds) (by simpa using h)]
theorem as_len : ∀ {fl : List Bool} {ds : List D} {vs : List V} {as : List Addr}, ArgR K M H fl ds vs as → ∀ a ∈ as, ∃ i, paOf fl as i = some a
  | [], [], [], [], _, a, h => by cases h
  | false :: fs, d :: ds, v :: vs, as, hh, a, h => by
    obtain ⟨i, e⟩ := as_len hh.2 a h
    exact ⟨i + 1, e⟩
  | true :: fs, d :: ds, v :: vs, b :: as, hh, a, h => by
    rcases List.mem_cons.mp h with e | h
    · subst e; exact ⟨0, rfl⟩
    · obtain ⟨i, e⟩ := as_len hh.2.2 a h
      exact ⟨i + 1, e⟩
/-- the owned parameters' contents at the end -/
theorem owns_rep {fl0 : List Bool} {as0 : List Addr} : ∀ {fl : List Bool} {as : List Addr} {ds : List D} {vs : List V} {ρ : Env} {os : List D} (k : Nat), ArgR K M H fl ds vs as → (∀ i, paOf fl as i = paOf fl0 as0 (i + k)) → owns fl ρ = some os →
    (∀ i s, ρ[i]? = some s → ∀ d, s = .p d → ∃ a, Ow K M' H' d a ∧ paOf fl0 as0 (i + k) = some a) → Paired (Ow K M' H') os as
  | [], as, ds, vs, ρ, os, k, hh, _, h, _ => by
    cases ds <;> cases vs <;> cases as <;> first | exact hh.elim | (cases h; exact .nil)
  | false :: fs, as, [], vs, ρ, os, k, hh, hp, h, hs => hh.elim
  | false :: fs, as, d :: ds, [], ρ, os, k, hh, hp, h, hs => hh.elim
  | true :: fs, as, [], vs, ρ, os, k, hh, hp, h, hs => hh.elim
  | true :: fs, as, d :: ds, [], ρ, os, k, hh, hp, h, hs => hh.elim
  | true :: fs, [], d :: ds, v :: vs, ρ, os, k, hh, hp, h, hs => hh.elim
  | false :: fs, as, d :: ds, v :: vs, ρ, os, k, hh, hp, h, hs => by
    cases ρ with
    | nil => cases h
    | cons s ρ =>
      have hs' : ∀ i s, ρ[i]? = some s → ∀ d, s = .p d → ∃ a, Ow K M' H' d a ∧ paOf fl0 as0 (i + (k + 1)) = some a := by
        intro i s hi d e
        have q := hs (i + 1) s (by simpa using hi) d e
        rw [show i + (k + 1) = (i + 1) + k by omega]
        exact q
      have hp' : ∀ i, paOf fs as i = paOf fl0 as0 (i + (k + 1)) := by
        intro i
        rw [show i + (k + 1) = (i + 1) + k by omega, ← hp (i + 1)]
        rfl
      exact owns_rep (k + 1) hh.2 hp' h hs'
  | true :: fs, a :: as, d :: ds, v :: vs, ρ, os, k, hh, hp, h, hs => by
    cases ρ with
    | nil => cases h
    | cons s ρ =>
      cases s with
      | p x =>
        unfold owns at h
        cases e : owns fs ρ with
        | none => rw [e] at h; cases h
        | some os' =>
          rw [e] at h
          cases h
          have hs' : ∀ i s, ρ[i]? = some s → ∀ d, s = .p d → ∃ a, Ow K M' H' d a ∧ paOf fl0 as0 (i + (k + 1)) = some a := by
            intro i s hi d e
            have q := hs (i + 1) s (by simpa using hi) d e
            rw [show i + (k + 1) = (i + 1) + k by omega]
            exact q
          have hp' : ∀ i, paOf fs as i = paOf fl0 as0 (i + (k + 1)) := by
            intro i
            rw [show i + (k + 1) = (i + 1) + k by omega, ← hp (i + 1)]
            rfl
          refine .cons ?_ (owns_rep (k + 1) hh.2.2 hp' e hs')
          obtain ⟨a', w, e'⟩ := hs 0 _ rfl x rfl
          have e2 := hp 0
          rw [e'] at e2
          have e2 : some a = some a' := e2
          cases e2
          exact w
      | _ => cases h
end
theorem start_get {N : List Str} {vs : List V} {i : Nat} : (L2.start N vs)[i]?.join = vs[i]? := by
  unfold L2.start
  by_cases h : i < vs.length
  · rw [List.getElem?_append_left (by simpa using h), List.getElem?_map, List.getElem?_eq_getElem h]
    rfl
  · rw [List.getElem?_append_right (by simpa using h), List.getElem?_replicate, List.getElem?_eq_none (by omega)]
    split <;> rfl
/-- a body's reading serves the def's promise -/
theorem fn_body {X : Cx} {N ps : List Str} {scope : Scope} {fl : List Bool} {m : SM} {t : TS} {E : XK} {Q : VK} {vs : List V} {H : Hp} (S : FnScope N ps scope) (hf : fl.length = ps.length)
    (sat : SatS X (fun c dx _ H' => E c dx H') t m) (hs : spF X.K X.mg fl (runF fl N.length m) vs H Q E) : t { nx := fun _ H' => Q .non H', rt := Q } (L2.start N vs) H := by
  obtain ⟨M, ds, as, mt, nd, ha, hsp⟩ := hs
  obtain ⟨lv, ld⟩ := ha.len
  have hN : ps.length ≤ N.length := by have := congrArg List.length S.pre; rw [List.length_take] at this; omega
  have rep : Rep X.K ⟨M, H, paOf fl as, [], mt⟩ M H (slotsOf fl ds ++ List.replicate (N.length - ds.length) .no) (L2.start N vs) := by
    refine ⟨fun b o e _ => e, fun b h => h, fun b h => h, fun b h => .inl h, mt, ?_, fun i s hi => ?_, fun i j s t a ne hi hj hs ht vi vj => ?_, fun p hp => by cases hp⟩
    · unfold L2.start
      rw [List.length_append, List.length_append, slotsOf_length ld, List.length_map, List.length_replicate, List.length_replicate, lv, ld]
    · rw [start_get]
      have q := ha.slot (n := N.length - ds.length) i s hi
      cases s with
      | no => trivial
      | v d => exact q
      | o d => exact q.elim
      | p d => exact q
    · have q1 := ha.slot (n := N.length - ds.length) i s hi
      have q2 := ha.slot (n := N.length - ds.length) j t hj
      cases s with
      | p d =>
        cases t with
        | p e =>
          obtain ⟨a1, e1, _, p1⟩ := q1
          obtain ⟨a2, e2, _, p2⟩ := q2
          rw [← start_get (N := N), of_join vi] at e1
          rw [← start_get (N := N), of_join vj] at e2
          cases e1
          cases e2
          exact ne (paOf_inj nd p1 p2)
        | no => cases ht
        | v _ => cases ht
        | o _ => exact q2.elim
      | no => cases hs
      | v _ => cases hs
      | o _ => exact q1.elim
  refine sat _ M H _ (L2.start N vs) _ rep ?_
  unfold runF at hsp
  rw [if_pos ld] at hsp
  have keep : ∀ {M' : Addr → Prop} {H' : Hp} {ρ : Env} {σ' : St}, Rep X.K ⟨M, H, paOf fl as, [], mt⟩ M' H' ρ σ' → Kept as H H' := fun r b o e hb => r.keep b o e fun i hi => hb (paOf_mem hi)
  have own : ∀ {M' : Addr → Prop} {H' : Hp} {ρ : Env} {σ' : St} {os : List D}, Rep X.K ⟨M, H, paOf fl as, [], mt⟩ M' H' ρ σ' → owns fl ρ = some os → Paired (Ow X.K M' H') os as := fun {M' H' ρ σ' os} r ho =>
    owns_rep (fl0 := fl) (as0 := as) 0 ha (fun i => rfl) ho fun i s hi d e => by
      subst e
      obtain ⟨a, _, w, pa⟩ := r.slot i _ hi
      exact ⟨a, w, pa⟩
  have down : ∀ {M' M2 : Addr → Prop} {H' : Hp} {os : List D}, (∀ b, M2 b → M' b) → (∀ a ∈ as, M2 a) → Paired (Ow X.K M' H') os as → Paired (Ow X.K M2 H') os as := by
    intro M' M2 H' os hsub hm h
    have x : Ext M' H' M2 H' := Ext.sub hsub
    have go : ∀ (os : List D) (as : List Addr), (∀ a ∈ as, M2 a) → Paired (Ow X.K M' H') os as → Paired (Ow X.K M2 H') os as := by
      intro os as hm h
      induction h with
      | nil => exact .nil
      | cons a b ih => exact .cons (a.ext x (hm _ List.mem_cons_self) rfl) (ih fun c hc => hm c (List.mem_cons_of_mem _ hc))
    exact go os as hm h
  have asM : ∀ a ∈ as, M a := fun a h => by
    obtain ⟨i, e⟩ := as_len ha a h
    -- the parameter's own slot
    have go : ∀ {fl : List Bool} {ds : List D} {vs : List V} {as : List Addr}, ArgR X.K M H fl ds vs as → ∀ a ∈ as, M a := by
      intro fl
      induction fl with
      | nil => intro ds vs as h a hm; cases ds <;> cases vs <;> cases as <;> first | exact h.elim | (cases hm; done)
      | cons b fl ih =>
        intro ds vs as h a hm
        cases b with
        | false => cases ds <;> cases vs <;> first | exact h.elim | exact ih h.2 a hm
        | true =>
          cases ds <;> cases vs <;> cases as <;> first | exact h.elim | skip
          rcases List.mem_cons.mp hm with e | hm
          · subst e; exact h.2.1.mem
          · exact ih h.2.2 a hm
    exact go ha a h
  cases em : m (slotsOf fl ds ++ List.replicate (N.length - ds.length) .no) with
  | nx ρ =>
    rw [em] at hsp
    unfold fin at hsp
    cases eo : owns fl ρ with
    | none => simp only [eo] at hsp
    | some os =>
      simp only [eo] at hsp
      exact fun M' H' σ' x r => hsp H' .non (keep r) (down (fun b h => r.sub b h) asM (own r eo)) .non
  | rt d ρ =>
    rw [em] at hsp
    unfold fin at hsp
    cases eo : owns fl ρ with
    | none => simp only [eo] at hsp
    | some os =>
      simp only [eo] at hsp
      exact fun M' H' σ' v x r q => hsp H' v (keep r) (down (fun b h => r.sub b h) asM (own r eo)) (Rp.ext (Ext.sub fun b h => r.sub b h) q)
  | rtF d ρ =>
    rw [em] at hsp
    unfold fin at hsp
    cases eo : owns fl ρ with
    | none => simp only [eo] at hsp
    | some os =>
      simp only [eo] at hsp
      intro M' H' σ' v x r ⟨a, ev, w, hb, an, _⟩
      subst ev
      have hsub : ∀ b, M b ∨ b = a → M' b := fun b h => h.elim (r.sub b) fun e => e ▸ w.mem
      exact hsp H' a (keep r) hb (down hsub (fun b h => .inl (asM b h)) (own r eo)) (w.ext (Ext.sub hsub) (.inr rfl) rfl)
  | exc xx ρ =>
    rw [em] at hsp
    unfold fin at hsp
    cases eo : owns fl ρ with
    | none => simp only [eo] at hsp
    | some os =>
      simp only [eo] at hsp
      refine fun M' H' σ' c dx x r q => hsp H' c dx (keep r) (down (fun b h => r.sub b h) asM (own r eo)) ?_
      obtain ⟨C, h1, h2, h3⟩ := q
      refine ⟨C, h1, h2, ?_⟩
      split at h3
      · exact h3
      · obtain ⟨a, v, e1, e2, e3⟩ := h3
        exact ⟨a, v, e1, e2, Rp.ext (Ext.sub fun b h => r.sub b h) e3⟩
      · exact h3
  | bk ρ => rw [em] at hsp; exact hsp.elim
  | ct ρ => rw [em] at hsp; exact hsp.elim
  | bad => rw [em] at hsp; exact hsp.elim
/-- THE RULE for a def -/
theorem fn_def {P : Program} {w : World} {K : PySem.W.Frag} {mg : Str → Option Value} {base : Heap} {x qual : Str} {st : Stmt} {f : Addr} {fd : FuncData} {N ps : List Str} {k : Nat} {fl : List Bool} {m : SM} (F : L2.Fun K x qual st f fd) (S : FnScope N ps (defScope st)) (hf : fl.length = ps.length)
    (der : ∀ (cdv : Value) (A : Around) (outer : List PySem.Env) (s : Shared) (H : Hp) (E : XK), Room k (A.deeper (envOfC qual (defScope st) s.heap.objs.size f cdv)) →
      DSs (cxOf (L2.CX P w) P w K mg base N qual (defScope st) f cdv A outer s H E) (fun c dx _ H' => E c dx H') (defBody st) m) : FnOk P w K mg base (L2.CX P w) (k + 1) f fd ps (spF K mg fl (runF fl N.length m)) := by
  refine Fun.okX F S (fun vs H Q E ⟨M, ds, as, _, _, h, _⟩ => by rw [h.len.1, hf]) fun cdv A outer s H vs Q E hr hs => ?_
  obtain ⟨t, pt, sat⟩ := der cdv A outer s H E hr
  exact ⟨t, pt, fn_body (X := cxOf (L2.CX P w) P w K mg base N qual (defScope st) f cdv A outer s H E) S hf sat hs⟩
theorem fn_bad {P : Program} {w : World} {K : PySem.W.Frag} {mg : Str → Option Value} {base : Heap} {f : Addr} {fd : FuncData} {ps : List Str} {k : Nat} {fl : List Bool} : FnOk P w K mg base (L2.CX P w) k f fd ps (spF K mg fl fun _ => .bad) :=
  ⟨fun _ _ _ _ ⟨_, _, _, _, _, _, h⟩ => h.elim, fun _ _ _ _ _ _ _ _ _ _ _ _ _ ⟨_, _, _, _, _, _, h⟩ => h.elim⟩
end NV

set_option Elab.async false
set_option linter.all false
set_option maxRecDepth 100000
set_option maxHeartbeats 4000000
/-! Core8: calls of defs. -/
namespace NV
open PySem PySem.Spec PyProof.Rows L2

/-! ### data without lists inside -/
mutual
def D.flat : D → Bool
  | .tup xs => flatL xs
  | .lst _ => false
  | .dct _ => false
  | .exn _ _ => false
  | _ => true
def flatL : List D → Bool
  | [] => true
  | d :: ds => d.flat && flatL ds
end
/-- an owned object with flat contents -/
def D.flatO : D → Bool
  | .lst xs => flatL xs
  | _ => false
section
variable {K : PySem.W.Frag} {M M' : Addr → Prop} {H : Hp}
mutual
theorem Rp.flat : ∀ {d : D} {v : V}, Rp K M H d v → d.flat = true → Rp K M' H d v
  | .non, _, h, _ => by cases h; exact .non
  | .bl b, _, h, _ => by cases h; exact .bl b
  | .int i, _, h, _ => by cases h; exact .int i
  | .str z, _, h, _ => by
    cases h with
    | str g => exact .str g
  | .tup ds, _, h, f => by
    cases h with
    | tup l s q => exact .tup l s (RpL.flat q f)
  | .lst ds, _, h, f => by cases f
  | .dct kvs, _, h, f => by cases f
  | .exn _ _, _, h, f => by cases f
  | .scr xs, _, h, _ => by
    cases h with
    | scr l s => exact .scr l s
theorem RpL.flat : ∀ {ds : List D} {vs : List V}, RpL K M H ds vs → flatL ds = true → RpL K M' H ds vs
  | [], _, h, _ => by cases h; exact .nil
  | d :: ds, _, h, f => by
    cases h with
    | cons a b =>
      unfold flatL at f
      rw [Bool.and_eq_true] at f
      exact .cons (Rp.flat a f.1) (RpL.flat b f.2)
end
theorem Ow.flat {d : D} {a : Addr} (w : Ow K M H d a) (f : d.flatO = true) (hm : M' a) : Ow K M' H d a := by
  cases d with
  | lst ds => obtain ⟨_, l, vs, e, q⟩ := w; exact ⟨hm, l, vs, e, q.flat f⟩
  | _ => cases f
end

/-! ### the arguments -/
def ownIdx : List Bool → List RV → Option (List Nat)
  | [], [] => some []
  | false :: fs, _ :: rs => ownIdx fs rs
  | true :: fs, .own i :: rs => (ownIdx fs rs).map fun is => i :: is
  | _, _ => none
/-- owned objects that are only lent -/
def lent : List Bool → List RV → List Nat
  | false :: fs, .own i :: rs => i :: lent fs rs
  | false :: fs, _ :: rs => lent fs rs
  | true :: fs, _ :: rs => lent fs rs
  | _, _ => []
def upO (ρ : Env) : List Nat → List D → Option Env
  | [], [] => some ρ
  | [i], [d] => some (ownSet ρ i d)
  | _, _ => none
def lentOk (l : List Nat) (r : D) (os : List D) : Bool := l.isEmpty || (r.flat && os.all D.flatO)
def lentOkF (l : List Nat) (r : D) (os : List D) : Bool := l.isEmpty || (r.flatO && os.all D.flatO)
/-- behind the arguments of a call of F -/
def callG (fl : List Bool) (fr : Bool) (F : List D → FRes) (rs : List RV) (ρ : Env) : Res D := match getAll ρ rs, ownIdx fl rs with
  | some ds, some is => if (is.length ≤ 1 && is.all fun i => !(lent fl rs).contains i) = true then match F ds with
      | .ok r os => if fr = false ∧ lentOk (lent fl rs) r os = true then ofO (upO ρ is os) ρ |>.bind fun ρ' _ => .ok r ρ' else .bad
      | .okF r os => if fr = true ∧ lentOkF (lent fl rs) r os = true then ofO (upO ρ is os) ρ |>.bind fun ρ' _ => .ok r ρ' else .bad
      | .exc x os => if lentOk (lent fl rs) (.tup x.fs) os = true then ofO (upO ρ is os) ρ |>.bind fun ρ' _ => .exc x ρ' else .bad
      | .bad => .bad
    else .bad
  | _, _ => .bad
def eCall (fl : List Bool) (fr : Bool) (F : List D → FRes) (ma : AM) : EM := fun ρ => (ma ρ).bind (callG fl fr F)

section
variable {K : PySem.W.Frag} {B : Base} {M M' : Addr → Prop} {H H' : Hp} {ρ ρ2 : Env} {σ : St}
/-- the addresses of owned slots -/
inductive OwnAt (ρ : Env) (σ : St) : List Nat → List Addr → Prop
  | nil : OwnAt ρ σ [] []
  | cons {i : Nat} {s : Slot} {a : Addr} {is : List Nat} {as : List Addr} : ρ[i]? = some s → isOwn s = true → σ[i]? = some (some (V.ref a)) → OwnAt ρ σ is as → OwnAt ρ σ (i :: is) (a :: as)
theorem OwnAt.length {is : List Nat} {as : List Addr} (h : OwnAt ρ σ is as) : is.length = as.length := by
  induction h with
  | nil => rfl
  | cons _ _ _ _ ih => simp [ih]
/-- behind a call -/
theorem Rep.called (r : Rep K B M H ρ σ) {is : List Nat} {as : List Addr} {os : List D} (hi : OwnAt ρ σ is as) (hk : Kept as H H') (hm : ∀ b, M b → M' b) (hn : ∀ b, M' b → M b ∨ H b = none) (ht : ∀ b, M' b → H' b ≠ none)
    (hp : Paired (Ow K M' H') os as) (hu : upO ρ is os = some ρ2) : Rep K B M' H' ρ2 σ ∧ Ext M H M' H' := by
  have nn : ∀ {b : Addr} {o : HO}, H b = some o → ¬ M b → ¬ M' b := fun e n m => (hn _ m).elim n fun z => by rw [z] at e; cases e
  cases hi with
  | nil =>
    cases hp
    cases hu
    have x : Ext M H M' H' := fun b o e _ => ⟨hk b o e (fun z => by cases z), nn e⟩
    exact ⟨r.grow x (fun b o e => hk b o e fun z => by cases z) hm hn ht, x⟩
  | cons h1 h2 h3 h4 =>
    rename_i i s a is as
    cases h4 with
    | cons _ _ _ _ => cases hp with | cons _ hp => cases hp with | cons _ _ => cases hu
    | nil =>
      cases hp with
      | cons w hp =>
        cases hp
        rename_i d
        obtain ⟨a', d0, e1, w0, kd⟩ := (r.slot i s h1).own h2
        rw [of_join h3] at e1
        cases e1
        obtain ⟨o0, q0, im0⟩ := w0.there
        obtain ⟨u, qu, imu⟩ := w.there
        have hx2 : ∀ b o, H b = some o → upd H' a o0 b = some o := fun b o e => by
          by_cases z : b = a
          · subst z
            rw [q0] at e
            cases e
            exact upd_same
          · rw [upd_ne z]
            exact hk b o e fun z2 => by simp at z2; exact z z2
        have r2 : Rep K B M' (upd H' a o0) ρ σ := r.grow (fun b o e _ => ⟨hx2 b o e, nn e⟩) hx2 hm hn fun b hb => by
          by_cases z : b = a
          · subst z; rw [upd_same]; intro z; cases z
          · rw [upd_ne z]; exact ht b hb
        have eH : upd (upd H' a o0) a u = H' := by
          funext b
          by_cases z : b = a
          · subst z; rw [upd_same, qu]
          · rw [upd_ne z, upd_ne z]
        have r3 := r2.mutate (u := u) (s' := reSlot s d) h1 h2 h3 (by rw [eH]; exact w) rfl
        rw [eH] at r3
        have es : ρ2 = ρ.set i (reSlot s d) := by
          have hu : ownSet ρ i d = ρ2 := by injection hu
          unfold ownSet at hu
          rw [h1] at hu
          cases s with
          | no => cases h2
          | v _ => cases h2
          | o _ => cases hu; rfl
          | p _ => cases hu; rfl
        rw [es]
        refine ⟨r3, fun b o e h => ⟨hk b o e fun z => ?_, nn e⟩⟩
        simp at z
        subst z
        rw [q0] at e
        cases e
        exact h.elim (fun n => n w0.mem) im0
def Lend (l : List Nat) (M : Addr → Prop) (σ : St) : Addr → Prop := fun b => M b ∧ ∀ j ∈ l, σ[j]? ≠ some (some (V.ref b))
theorem Lend.nil {b : Addr} (h : M b) : Lend [] M σ b := ⟨h, fun _ z => by cases z⟩
/-- the arguments as the called def takes them -/
theorem args_of {ρ' : Env} (r : Rep K B M H ρ σ) (l : List Nat) (hl : ∀ j ∈ l, ∃ s, ρ[j]? = some s ∧ isOwn s = true) : ∀ {fl : List Bool} {rs : List RV} {vs : List V} {ds : List D} {is : List Nat}, Paired (fun r v => RelR K σ M H ρ' r v) rs vs → getAll ρ rs = some ds → ownIdx fl rs = some is →
    (∀ j ∈ lent fl rs, j ∈ l) → (∀ i ∈ is, i ∉ l) → ∃ as, ArgR K (Lend l M σ) H fl ds vs as ∧ OwnAt ρ σ is as
  | [], [], vs, ds, is, h, g, o, _, _ => by
    cases h; cases g; cases o
    exact ⟨[], trivial, .nil⟩
  | [], _ :: _, vs, ds, is, h, g, o, _, _ => by cases o
  | false :: fs, [], vs, ds, is, h, g, o, _, _ => by cases o
  | true :: fs, [], vs, ds, is, h, g, o, _, _ => by cases o
  | false :: fs, x :: rs, vs, ds, is, h, g, o, hj, hi => by
    cases h with
    | cons hx h =>
      unfold getAll at g
      cases e1 : x.get ρ with
      | none => rw [e1] at g; cases g
      | some d =>
        rw [e1] at g
        cases e2 : getAll ρ rs with
        | none => rw [e2] at g; cases g
        | some ds' =>
          rw [e2] at g
          cases g
          have hj2 : ∀ j ∈ lent fs rs, j ∈ l := fun j hm => hj j (by
            cases x with
            | val _ => exact hm
            | own _ => exact List.mem_cons_of_mem _ hm)
          obtain ⟨as, q1, q2⟩ := args_of r l hl (fl := fs) h e2 o hj2 hi
          refine ⟨as, ⟨?_, q1⟩, q2⟩
          cases x with
          | val d' => cases e1; exact Rp.ext (Ext.sub fun _ z => z.1) hx
          | own j =>
            obtain ⟨a, s, h1, h2, h3, w, _⟩ := own_at r e1
            have hv : σ[j]? = some (some _) := hx
            rw [h3] at hv
            cases hv
            refine Rp.ext (Ext.sub fun b z => ⟨z.1, fun eb => ?_⟩) w.rp
            subst eb
            exact z.2 j (hj j List.mem_cons_self) h3
  | true :: fs, .val _ :: rs, vs, ds, is, h, g, o, hj, hi => by cases o
  | true :: fs, .own i :: rs, vs, ds, is, h, g, o, hj, hi => by
    cases h with
    | cons hx h =>
      unfold getAll at g
      cases e1 : (RV.own i).get ρ with
      | none => rw [e1] at g; cases g
      | some d =>
        rw [e1] at g
        cases e2 : getAll ρ rs with
        | none => rw [e2] at g; cases g
        | some ds' =>
          rw [e2] at g
          cases g
          cases e3 : ownIdx fs rs with
          | none => simp only [ownIdx, e3] at o; cases o
          | some is' =>
            simp only [ownIdx, e3] at o
            cases o
            obtain ⟨as, q1, q2⟩ := args_of r l hl (fl := fs) h e2 e3 hj fun i hm => hi i (List.mem_cons_of_mem _ hm)
            obtain ⟨a, s, h1, h2, h3, w, _⟩ := own_at r e1
            have hv : σ[i]? = some (some _) := hx
            rw [h3] at hv
            cases hv
            refine ⟨a :: as, ⟨rfl, w.ext (Ext.sub fun _ z => z.1) ⟨w.mem, fun j hm e => ?_⟩ rfl, q1⟩, .cons h1 h2 h3 q2⟩
            obtain ⟨t, t1, t2⟩ := hl j hm
            exact r.apart i j s t a (fun eij => hi i List.mem_cons_self (eij ▸ hm)) h1 t1 h2 t2 h3 e
theorem lent_own {ρ : Env} : ∀ {fl : List Bool} {rs : List RV} {ds : List D}, getAll ρ rs = some ds → ∀ j ∈ lent fl rs, ∃ s, ρ[j]? = some s ∧ isOwn s = true
  | [], _, _, _, j, h => by cases h
  | false :: _, [], _, _, j, h => by cases h
  | true :: _, [], _, _, j, h => by cases h
  | b :: fs, x :: rs, ds, g, j, h => by
    unfold getAll at g
    cases e1 : x.get ρ with
    | none => rw [e1] at g; cases g
    | some d =>
      rw [e1] at g
      cases e2 : getAll ρ rs with
      | none => rw [e2] at g; cases g
      | some ds' =>
        rw [e2] at g
        have ih := lent_own (fl := fs) e2
        cases b with
        | true => exact ih j h
        | false =>
          cases x with
          | val _ => exact ih j h
          | own i =>
            rcases List.mem_cons.mp h with e | h
            · subst e
              unfold RV.get at e1
              cases e3 : ρ[j]? with
              | none => simp only [e3] at e1; cases e1
              | some s =>
                simp only [e3] at e1
                refine ⟨s, rfl, ?_⟩
                cases s with
                | no => cases e1
                | v _ => cases e1
                | o _ => rfl
                | p _ => rfl
            · exact ih j h
end

section
variable {X : Cx} {W : WX} {k : Nat} {f : Addr} {fd : FuncData} {ps : List Str} {x : Str} {p pos : Pos} {e : Expr} {es : List Expr} {fl : List Bool} {F : List D → FRes} {ma : AM} {t : TA}
theorem lend_back {K : PySem.W.Frag} {N N' : Addr → Prop} {H : Hp} {l : List Nat} {d : D} {v : V} (h : Rp K N H d v) (hN : l = [] → ∀ b, N' b → N b) (hf : (l.isEmpty || d.flat) = true) : Rp K N' H d v := by
  cases l with
  | nil => exact h.ext fun b o e _ => ⟨e, fun n z => n (hN rfl b z)⟩
  | cons a l => exact h.flat (by simpa using hf)
theorem lend_backO {K : PySem.W.Frag} {N N' : Addr → Prop} {H : Hp} {l : List Nat} {d : D} {a : Addr} (h : Ow K N H d a) (hs : ∀ b, N b → N' b) (hN : l = [] → ∀ b, N' b → N b) (hf : (l.isEmpty || d.flatO) = true) : Ow K N' H d a := by
  cases l with
  | nil => exact h.ext (fun b o e _ => ⟨e, fun n z => n (hN rfl b z)⟩) (hs _ h.mem) rfl
  | cons b l => exact h.flat (by simpa using hf) (hs _ h.mem)
theorem lend_backP {K : PySem.W.Frag} {N N' : Addr → Prop} {H : Hp} {l : List Nat} (hs : ∀ b, N b → N' b) (hN : l = [] → ∀ b, N' b → N b) : ∀ {os : List D} {as : List Addr}, Paired (Ow K N H) os as → (l.isEmpty || os.all D.flatO) = true → Paired (Ow K N' H) os as
  | [], _, h, _ => by cases h; exact .nil
  | d :: os, _, h, f => by
    cases h with
    | cons a b =>
      refine .cons (lend_backO a hs hN ?_) (lend_backP hs hN b ?_) <;> (cases l <;> simp_all)
theorem upO_own {ρ ρ2 : Env} {is : List Nat} {os : List D} (hu : upO ρ is os = some ρ2) {i : Nat} {s : Slot} (h : ρ2[i]? = some s) (o : isOwn s = true) : ∃ s', ρ[i]? = some s' ∧ isOwn s' = true := by
  match is, os, hu with
  | [], [], hu => cases hu; exact ⟨s, h, o⟩
  | [j], [d], hu =>
    have hu : ownSet ρ j d = ρ2 := by injection hu
    subst hu
    unfold ownSet at h
    cases e : ρ[j]? with
    | none => rw [e] at h; exact ⟨s, h, o⟩
    | some t =>
      rw [e] at h
      cases t with
      | no => exact ⟨s, h, o⟩
      | v _ => exact ⟨s, h, o⟩
      | o d2 =>
        by_cases z : j = i
        · subst z; exact ⟨_, e, rfl⟩
        · rw [List.getElem?_set_ne z] at h; exact ⟨s, h, o⟩
      | p d2 =>
        by_cases z : j = i
        · subst z; exact ⟨_, e, rfl⟩
        · rw [List.getElem?_set_ne z] at h; exact ⟨s, h, o⟩
theorem Kept.trk {as : List Addr} {H H' : Hp} {K : PySem.W.Frag} {M' : Addr → Prop} {os : List D} (hk : Kept as H H') (hp : Paired (Ow K M' H') os as) {b : Addr} (h : H b ≠ none) : H' b ≠ none := by
  by_cases z : b ∈ as
  · have go : ∀ {os : List D} {as : List Addr}, Paired (Ow K M' H') os as → b ∈ as → H' b ≠ none := by
      intro os as h
      induction h with
      | nil => intro z; cases z
      | cons w _ ih =>
        intro z
        rcases List.mem_cons.mp z with e | z
        · subst e
          obtain ⟨o, q, _⟩ := w.there
          rw [q]; intro z; cases z
        · exact ih z
    exact go hp z
  · cases q : H b with
    | none => exact absurd q h
    | some o => rw [hk b o q z]; intro z; cases z
theorem ExR.back {K : PySem.W.Frag} {mg : Str → Option Value} {M : Addr → Prop} {H : Hp} {σ : St} {l : List Nat} {xx : Exn} {c : Value} {dx : Option Addr} (h : ExR K mg (Lend l M σ) H xx c dx) (hf : (l.isEmpty || flatL xx.fs) = true) : ExR K mg M H xx c dx := by
  obtain ⟨C, h1, h2, h3⟩ := h
  refine ⟨C, h1, h2, ?_⟩
  split at h3
  · rename_i e; exact h3
  · rename_i d e
    obtain ⟨a, v, e1, e2, e3⟩ := h3
    refine ⟨a, v, e1, e2, lend_back (l := l) e3 (fun e b h => by subst e; exact Lend.nil h) ?_⟩
    rw [e] at hf
    simpa [flatL] using hf
  · exact h3
theorem call_sat {fr : Bool} (s : Sat X W (fun _ σ => RelA X.K σ) t ma) :
    Sat X W (fun B σ => if fr then RelF X.K B σ else RelE X.K) (tCallS (spF X.K X.mg fl F) (WE W) t) (eCall fl fr F ma) := by
  intro B M H ρ σ Q rp k
  refine s B M H ρ σ _ rp (Post.seq k fun rs ρ1 M1 H1 vs x1 r1 q1 k1 => ?_)
  unfold callG at k1
  cases eg : getAll ρ1 rs with
  | none => simp only [eg] at k1; exact k1.elim
  | some ds =>
    cases ei : ownIdx fl rs with
    | none => simp only [eg, ei] at k1; exact k1.elim
    | some is =>
      simp only [eg, ei] at k1
      by_cases hc : (decide (is.length ≤ 1) && is.all fun i => !(lent fl rs).contains i) = true
      · rw [if_pos hc] at k1
        rw [Bool.and_eq_true] at hc
        obtain ⟨hc1, hc2⟩ := hc
        have hc1 : is.length ≤ 1 := by simpa using hc1
        have hc2 : ∀ i ∈ is, i ∉ lent fl rs := fun i hm z => by
          have q := List.all_eq_true.mp hc2 i hm
          simp at q
          exact q z
        obtain ⟨as, ha, hi⟩ := args_of (fl := fl) r1 (lent fl rs) (lent_own eg) q1 eg ei (fun _ h => h) hc2
        have la := hi.length
        have nd : as.Nodup := by
          match as, (show as.length ≤ 1 by omega) with
          | [], _ => exact List.nodup_nil
          | [a], _ => simp
        refine ⟨Lend (lent fl rs) M1 σ, ds, as, fun b h => r1.trk b h.1, nd, ha, ?_⟩
        have hN0 : lent fl rs = [] → ∀ b, M1 b → Lend (lent fl rs) M1 σ b := fun e b h => by rw [e]; exact Lend.nil h
        cases eF : F ds with
        | ok r os =>
          simp only [eF] at k1 ⊢
          by_cases hl : fr = false ∧ lentOk (lent fl rs) r os = true
          · rw [if_pos hl] at k1
            obtain ⟨hfr, hl⟩ := hl
            subst hfr
            unfold lentOk at hl
            intro H2 v hk hp hr
            cases eu : upO ρ1 is os with
            | none => simp only [eu] at k1; exact k1.elim
            | some ρ2 =>
              simp only [eu] at k1
              have hp' := lend_backP (N' := M1) (l := lent fl rs) (fun _ h => h.1) hN0 hp (by cases h : (lent fl rs).isEmpty <;> simp_all)
              obtain ⟨r2, x2⟩ := r1.called hi hk (fun _ h => h) (fun _ h => .inl h) (fun b h => hk.trk hp (r1.trk b h)) hp' eu
              exact k1 M1 H2 v x2 r2 (lend_back (l := lent fl rs) hr hN0 (by cases h : (lent fl rs).isEmpty <;> simp_all))
          · rw [if_neg hl] at k1; exact k1.elim
        | okF r os =>
          simp only [eF] at k1 ⊢
          by_cases hl : fr = true ∧ lentOkF (lent fl rs) r os = true
          · rw [if_pos hl] at k1
            obtain ⟨hfr, hl⟩ := hl
            subst hfr
            unfold lentOkF at hl
            intro H2 a hk hn hp hr
            cases eu : upO ρ1 is os with
            | none => simp only [eu] at k1; exact k1.elim
            | some ρ2 =>
              simp only [eu] at k1
              have hs1 : ∀ b, (Lend (lent fl rs) M1 σ b ∨ b = a) → (M1 b ∨ b = a) := fun b h => h.imp (fun z => z.1) id
              have hN1 : lent fl rs = [] → ∀ b, (M1 b ∨ b = a) → (Lend (lent fl rs) M1 σ b ∨ b = a) := fun e b h => h.imp (hN0 e b) id
              have hp' := lend_backP (N' := fun b => M1 b ∨ b = a) (l := lent fl rs) hs1 hN1 hp (by cases h : (lent fl rs).isEmpty <;> simp_all)
              have w := lend_backO (N' := fun b => M1 b ∨ b = a) (l := lent fl rs) hr hs1 hN1 (by cases h : (lent fl rs).isEmpty <;> simp_all)
              obtain ⟨r2, x2⟩ := r1.called hi hk (fun _ h => .inl h) (fun b h => h.imp id fun e => by rw [e]; exact hn) (fun b h => h.elim (fun h => hk.trk hp (r1.trk b h)) fun e => by
                rw [e]
                obtain ⟨o, q, _⟩ := w.there
                rw [q]; intro z; cases z) hp' eu
              refine k1 _ H2 _ x2 r2 ⟨a, rfl, w, ?_, fun i s hi ho e => ?_, fun p hm e => ?_⟩
              · cases q : B.H a with
                | none => rfl
                | some o => exact absurd hn (r1.old a (by rw [q]; intro z; cases z))
              · obtain ⟨s', h1, h2⟩ := upO_own eu hi ho
                obtain ⟨a', d0, e1, w0, _⟩ := (r1.slot i s' h1).own h2
                rw [of_join e] at e1
                cases e1
                obtain ⟨o, q, _⟩ := w0.there
                rw [hn] at q
                cases q
              · have q := (r1.pr p hm).1
                rw [e, hn] at q
                cases q
          · rw [if_neg hl] at k1; exact k1.elim
        | exc xx os =>
          simp only [eF] at k1 ⊢
          by_cases hl : lentOk (lent fl rs) (.tup xx.fs) os = true
          · rw [if_pos hl] at k1
            unfold lentOk at hl
            intro H2 c dx hk hp hr
            cases eu : upO ρ1 is os with
            | none => simp only [eu] at k1; exact k1.elim
            | some ρ2 =>
              simp only [eu] at k1
              have hp' := lend_backP (N' := M1) (l := lent fl rs) (fun _ h => h.1) hN0 hp (by cases h : (lent fl rs).isEmpty <;> simp_all)
              obtain ⟨r2, x2⟩ := r1.called hi hk (fun _ h => h) (fun _ h => .inl h) (fun b h => hk.trk hp (r1.trk b h)) hp' eu
              exact k1 M1 H2 c dx x2 r2 (hr.back (by cases h : (lent fl rs).isEmpty <;> simp_all [D.flat]))
          · rw [if_neg hl] at k1; exact k1.elim
        | bad => simp only [eF] at k1; exact k1.elim
      · rw [if_neg hc] at k1; exact k1.elim
theorem de_call (hF : FnOk X.prog X.w X.K X.mg X.base (L2.CX X.prog X.w) k f fd ps (spF X.K X.mg fl F)) (hr : Room k X.A) (hg : Gl X x) (hm : X.mg x = some (.ref f)) (hk : PySem.W.keepIn X.K (.ref f) = true) (hb : Binds X.K fd ps []) (tk : Takes X W) (ha : DA X W (e :: es) ma)
    (hdb : (x == ("__debug__" : Str)) = false := by decide) (he : starEach (e :: es) X.env = (false, eval e X.env) :: starEach es X.env := by rfl) (hpl : (backTo pos (starEach es X.env)).any (·.1) = false := by rfl) : DE X W (.Call (.Name x p) (e :: es) [] pos) (eCall fl false F ma) := by
  obtain ⟨t, pt, s⟩ := ha
  exact ⟨_, pe_callS hF hr hg hm hk hb (fun σ => passAt tk σ) pt hdb he hpl, call_sat (fr := false) s⟩
theorem df_call (hF : FnOk X.prog X.w X.K X.mg X.base (L2.CX X.prog X.w) k f fd ps (spF X.K X.mg fl F)) (hr : Room k X.A) (hg : Gl X x) (hm : X.mg x = some (.ref f)) (hk : PySem.W.keepIn X.K (.ref f) = true) (hb : Binds X.K fd ps []) (tk : Takes X W) (ha : DA X W (e :: es) ma)
    (hdb : (x == ("__debug__" : Str)) = false := by decide) (he : starEach (e :: es) X.env = (false, eval e X.env) :: starEach es X.env := by rfl) (hpl : (backTo pos (starEach es X.env)).any (·.1) = false := by rfl) : DF X W (.Call (.Name x p) (e :: es) [] pos) (eCall fl true F ma) := by
  obtain ⟨t, pt, s⟩ := ha
  exact ⟨_, pe_callS hF hr hg hm hk hb (fun σ => passAt tk σ) pt hdb he hpl, call_sat (fr := true) s⟩
end
end NV

set_option Elab.async false
set_option linter.all false
set_option maxRecDepth 100000
set_option maxHeartbeats 4000000
/-! Core9: value tests, built-in functions. -/
namespace NV
open PySem PySem.Spec PyProof.Rows L2

section
variable {X : Cx} {W : WX} {a b : Expr} {rest : List Expr} {pos : Pos} {ea eb : EM}
/-! ### and, or, not as values -/
theorem truV_rp {M : Addr → Prop} {H : Hp} {d : D} {v : V} {k : Bool} (h : Rp X.K M H d v) (e : truthy d = some k) : TruV X.K v H k := truV_of h.rq e
theorem de_and (ha : DE X W a ea) (hb : DE X W (.BoolOp .And (b :: rest) pos) eb) : DE X W (.BoolOp .And (a :: b :: rest) pos) (eAnd ea eb) := by
  obtain ⟨t, pt, s⟩ := ha
  obtain ⟨u, pu, s'⟩ := hb
  refine ⟨_, pe_andT pt pu, fun B M H ρ σ Q rp k => s B M H ρ σ _ rp (Post.seq k fun d ρ1 M1 H1 v x1 r1 q1 k1 => ?_)⟩
  cases e : truthy d with
  | none => rw [e] at k1; exact k1.elim
  | some c =>
    rw [e] at k1
    refine ⟨c, truV_rp q1 e, ?_⟩
    cases c with
    | true => exact iteT (s' B M1 H1 ρ1 σ Q r1 k1)
    | false => exact iteF (k1 M1 H1 v Ext.refl r1 q1)
theorem de_or (ha : DE X W a ea) (hb : DE X W (.BoolOp .Or (b :: rest) pos) eb) : DE X W (.BoolOp .Or (a :: b :: rest) pos) (eOr ea eb) := by
  obtain ⟨t, pt, s⟩ := ha
  obtain ⟨u, pu, s'⟩ := hb
  refine ⟨_, pe_orT pt pu, fun B M H ρ σ Q rp k => s B M H ρ σ _ rp (Post.seq k fun d ρ1 M1 H1 v x1 r1 q1 k1 => ?_)⟩
  cases e : truthy d with
  | none => rw [e] at k1; exact k1.elim
  | some c =>
    rw [e] at k1
    refine ⟨c, truV_rp q1 e, ?_⟩
    cases c with
    | true => exact iteT (k1 M1 H1 v Ext.refl r1 q1)
    | false => exact iteF (s' B M1 H1 ρ1 σ Q r1 k1)
theorem de_not (ha : DE X W a ea) : DE X W (.UnaryOp .Not a pos) (eNot ea) := by
  obtain ⟨t, pt, s⟩ := ha
  refine ⟨_, pe_notT pt, fun B M H ρ σ Q rp k => s B M H ρ σ _ rp (Post.seq k fun d ρ1 M1 H1 v x1 r1 q1 k1 => ?_)⟩
  cases e : truthy d with
  | none => rw [e] at k1; exact k1.elim
  | some c =>
    rw [e] at k1
    exact ⟨c, truV_rp q1 e, k1 M1 H1 _ Ext.refl r1 (.bl _)⟩
end

section
variable {X : Cx} {W : WX} {B : Base} {M : Addr → Prop} {H : Hp} {ρ : Env} {σ : St} {Q : V → Hp → Prop}
/-! ### order of data that are alike -/
def okOrd (d e : D) : Bool := okD 64 d && okD 64 e && PySem.W.alike (toPy d) (toPy e) && !(isNon d)
def ordO (f : PyData → PyData → Bool) (d e : D) : Option D := if okOrd d e then some (.bl (f (toPy d) (toPy e))) else none
def rOrd (K : PySem.W.Frag) (f : PyData → PyData → Bool) : R2 := fun x y H Q => ∃ d e, Dp K H x d ∧ Dp K H y e ∧ PySem.W.alike d e = true ∧ d ≠ .none ∧ d.depth ≤ 64 ∧ Q (.bl (f d e)) H
theorem op_ord {op : CmpOp} {f : PyData → PyData → Bool} (c : Cd X)
    (hop : ∀ (s : Shared) (a b : Value) (da db : PyData) (as bs : List Addr) (Q : Value → Shared → Prop), Reads s.heap a da as → Reads s.heap b db bs → PySem.W.alike da db = true → da ≠ .none → X.A.units + min da.depth db.depth < cLine → Q (.bool (f da db)) s → wpAny (model X.prog X.w) X.A (compareOp op a b) Q X.xe s) :
    OpR X (compareOp op) (rOrd X.K f) := by
  intro pins s σ H x y v u Q I rx ry h
  obtain ⟨d, e, hd, he, al, nn, dp, q⟩ := h
  obtain ⟨as, r1⟩ := Dp.reads I d x v hd rx
  obtain ⟨bs, r2⟩ := Dp.reads I e y u he ry
  have hu := c.units
  exact hop s v u d e as bs _ r1 r2 al nn (by omega) ⟨.bl _, H, I, rfl, q⟩
theorem op_ltD (c : Cd X) : OpR X (compareOp .Lt) (rOrd X.K PySem.W.dataLt) := op_ord c fun s a b da db as bs Q h1 h2 h3 h4 h5 h6 => PySem.W.lt_data h1 h2 h3 h4 h5 h6
theorem op_gtD (c : Cd X) : OpR X (compareOp .Gt) (rOrd X.K fun d e => PySem.W.dataLt e d) := op_ord c fun s a b da db as bs Q h1 h2 h3 h4 h5 h6 => PySem.W.gt_data h1 h2 h3 h4 h5 h6
theorem op_leD (c : Cd X) : OpR X (compareOp .LtE) (rOrd X.K fun d e => !PySem.W.dataLt e d) := op_ord c fun s a b da db as bs Q h1 h2 h3 h4 h5 h6 => PySem.W.le_data h1 h2 h3 h4 h5 h6
theorem op_geD (c : Cd X) : OpR X (compareOp .GtE) (rOrd X.K fun d e => !PySem.W.dataLt d e) := op_ord c fun s a b da db as bs Q h1 h2 h3 h4 h5 h6 => PySem.W.ge_data h1 h2 h3 h4 h5 h6
theorem o_ord {f : PyData → PyData → Bool} : OpE X (ordO f) (rOrd X.K f) := by
  intro B W M H ρ σ d e z x y Q rp hx hy hf h
  unfold ordO at hf
  split at hf
  · rename_i hc
    cases hf
    unfold okOrd at hc
    simp only [Bool.and_eq_true] at hc
    obtain ⟨⟨⟨h1, h2⟩, h3⟩, h4⟩ := hc
    refine ⟨_, _, (Rq.dp h1 hx).1, (Rq.dp h2 hy).1, h3, fun e => ?_, okD.depth 64 d h1, post_v h rp (.bl _)⟩
    cases d <;> simp [toPy, isNon] at e h4
  · cases hf

/-! ### len, int, max, min .. -/
def lenD : List D → Option D
  | [.str x] => some (.int x.length)
  | [.tup xs] => some (.int xs.length)
  | [.lst xs] => some (.int xs.length)
  | [.scr xs] => some (.int xs.length)
  | [.dct kvs] => some (.int kvs.length)
  | _ => none
def rLenA (K : PySem.W.Frag) : List V → Hp → VK → Prop := fun xs H Q => (∃ x n, xs = [x] ∧ LenV K x H n ∧ Q (.int n) H) ∨ ∃ a kvs, xs = [V.ref a] ∧ H a = some (.dK kvs) ∧ Q (.int kvs.length) H
theorem call_lenA {X : Cx} : CallR X (.builtin "len") (rLenA X.K) := call_len.or call_lenD
theorem f_len : CallE X lenD (rLenA X.K) := by
  intro B W M H ρ σ ds z xs Q rp hp hf h
  unfold lenD at hf
  split at hf
  · cases hf
    cases hp with | cons a b => cases b; obtain ⟨rfl, g⟩ := rq_str a; exact .inl ⟨_, _, rfl, ⟨g.1, rfl⟩, post_v h rp (.int _)⟩
  · cases hf
    cases hp with | cons a b => cases b; obtain ⟨p, vs, rfl, l, h1, h2⟩ := rq_tup a; exact .inl ⟨_, vs.length, rfl, .inr ⟨_, h1, rfl⟩, by rw [← h2.length]; exact post_v h rp (.int _)⟩
  · cases hf
    cases hp with | cons a b => cases b; obtain ⟨p, vs, rfl, l, h1, h2⟩ := rq_lst a; exact .inl ⟨_, vs.length, rfl, .inl ⟨_, SqL.of h1, rfl⟩, by rw [← h2.length]; exact post_v h rp (.int _)⟩
  · cases hf
    rename_i ys
    cases hp with | cons a b => cases b; obtain ⟨p, rfl, l, h1⟩ := rq_scr a; exact .inl ⟨_, (ys.map V.int).length, rfl, .inl ⟨_, h1.sql, rfl⟩, by rw [List.length_map]; exact post_v h rp (.int _)⟩
  · cases hf
    cases hp with | cons a b => cases b; obtain ⟨p, vs, rfl, l, h1, h2⟩ := rq_dct a; exact .inr ⟨_, vs, rfl, h1, by rw [← h2.length]; exact post_v h rp (.int _)⟩
  · cases hf
def intD : List D → Option D
  | [.int i] => some (.int i)
  | [.bl b] => some (.int (if b then 1 else 0))
  | _ => none
theorem f_int : CallE X intD (fun xs H Q => (∃ i, xs = [.int i] ∧ Q (.int i) H) ∨ ∃ k, xs = [.bl k] ∧ Q (.int (if k then 1 else 0)) H) := by
  intro B W M H ρ σ ds z xs Q rp hp hf h
  unfold intD at hf
  split at hf
  · cases hf
    cases hp with | cons a b => cases b; obtain rfl := rq_int a; exact .inl ⟨_, rfl, post_v h rp (.int _)⟩
  · cases hf
    cases hp with | cons a b => cases b; obtain rfl := rq_bl a; exact .inr ⟨_, rfl, post_v h rp (.int _)⟩
  · cases hf
def max2D : List D → Option D
  | [.int i, .int j] => some (.int (if j > i then j else i))
  | _ => none
def min2D : List D → Option D
  | [.int i, .int j] => some (.int (if j < i then j else i))
  | _ => none
theorem f_max2 : CallE X max2D (fun xs H Q => ∃ i j, xs = [.int i, .int j] ∧ Q (.int (if j > i then j else i)) H) := by
  intro B W M H ρ σ ds z xs Q rp hp hf h
  unfold max2D at hf
  split at hf
  · cases hf
    cases hp with | cons a b => cases b with | cons b c => cases c; obtain rfl := rq_int a; obtain rfl := rq_int b; exact ⟨_, _, rfl, post_v h rp (.int _)⟩
  · cases hf
theorem f_min2 : CallE X min2D (fun xs H Q => ∃ i j, xs = [.int i, .int j] ∧ Q (.int (if j < i then j else i)) H) := by
  intro B W M H ρ σ ds z xs Q rp hp hf h
  unfold min2D at hf
  split at hf
  · cases hf
    cases hp with | cons a b => cases b with | cons b c => cases c; obtain rfl := rq_int a; obtain rfl := rq_int b; exact ⟨_, _, rfl, post_v h rp (.int _)⟩
  · cases hf
def intsOf : List D → Option (List Int)
  | [] => some []
  | .int i :: ds => (intsOf ds).map fun l => i :: l
  | _ => none
theorem ints_rpl : ∀ {ds : List D} {ns : List Int} {vs : List V}, intsOf ds = some ns → RpL X.K M H ds vs → vs = ns.map V.int ∧ ds = ns.map D.int
  | [], ns, vs, e, h => by cases e; cases h; exact ⟨rfl, rfl⟩
  | d :: ds, ns, vs, e, h => by
    cases d with
    | int i =>
      cases h with
      | cons a b =>
        cases e2 : intsOf ds with
        | none => simp only [intsOf, e2] at e; cases e
        | some l =>
          simp only [intsOf, e2] at e
          cases e
          cases a
          obtain ⟨e3, e4⟩ := ints_rpl e2 b
          exact ⟨by rw [e3]; rfl, by rw [e4]; rfl⟩
    | _ => cases e
/-- the least, the greatest of ints -/
def minL : List Int → Int
  | [] => 0
  | [i] => i
  | i :: l => min i (minL l)
def maxL : List Int → Int
  | [] => 0
  | [i] => i
  | i :: l => max i (maxL l)
theorem minL_le : ∀ {l : List Int} {y : Int}, y ∈ l → minL l ≤ y
  | [], y, h => by cases h
  | [i], y, h => by simp at h; subst h; exact Int.le_refl _
  | i :: j :: l, y, h => by
    have e : minL (i :: j :: l) = min i (minL (j :: l)) := rfl
    rw [e]
    rcases List.mem_cons.mp h with h | h
    · subst h; omega
    · have := minL_le h; omega
theorem minL_mem : ∀ {l : List Int}, l ≠ [] → minL l ∈ l
  | [], h => absurd rfl h
  | [i], h => by simp [minL]
  | i :: j :: l, h => by
    have e : minL (i :: j :: l) = min i (minL (j :: l)) := rfl
    have q := minL_mem (l := j :: l) (by simp)
    rw [e]
    by_cases z : i ≤ minL (j :: l)
    · rw [Int.min_eq_left z]; exact List.mem_cons_self
    · rw [Int.min_eq_right (by omega)]; exact List.mem_cons_of_mem _ q
theorem maxL_ge : ∀ {l : List Int} {y : Int}, y ∈ l → y ≤ maxL l
  | [], y, h => by cases h
  | [i], y, h => by simp at h; subst h; exact Int.le_refl _
  | i :: j :: l, y, h => by
    have e : maxL (i :: j :: l) = max i (maxL (j :: l)) := rfl
    rw [e]
    rcases List.mem_cons.mp h with h | h
    · subst h; omega
    · have := maxL_ge h; omega
theorem maxL_mem : ∀ {l : List Int}, l ≠ [] → maxL l ∈ l
  | [], h => absurd rfl h
  | [i], h => by simp [maxL]
  | i :: j :: l, h => by
    have e : maxL (i :: j :: l) = max i (maxL (j :: l)) := rfl
    have q := maxL_mem (l := j :: l) (by simp)
    rw [e]
    by_cases z : maxL (j :: l) ≤ i
    · rw [Int.max_eq_left z]; exact List.mem_cons_self
    · rw [Int.max_eq_right (by omega)]; exact List.mem_cons_of_mem _ q
def listI (f : List Int → Option D) : List D → Option D
  | [.lst ds] => (intsOf ds).bind f
  | [.scr ns] => f ns
  | _ => none
theorem list_ints {ds : List D} {xs : List V} {f : List Int → Option D} {z : D} (hp : Paired (Rq X.K M H) ds xs) (hf : listI f ds = some z) : ∃ a ns, xs = [V.ref a] ∧ SqL X.K H a (ns.map V.int) ∧ f ns = some z := by
  unfold listI at hf
  split at hf
  · cases hp with
    | cons a b =>
      cases b
      obtain ⟨p, vs, rfl, l, h1, h2⟩ := rq_lst a
      rename_i ds'
      cases e : intsOf ds' with
      | none => rw [e] at hf; cases hf
      | some ns =>
        rw [e] at hf
        obtain ⟨e1, _⟩ := ints_rpl e h2
        exact ⟨_, ns, rfl, e1 ▸ SqL.of h1, hf⟩
  · cases hp with
    | cons a b =>
      cases b
      obtain ⟨p, rfl, l, h1⟩ := rq_scr a
      exact ⟨_, _, rfl, h1.sql, hf⟩
  · cases hf
def sumD : List D → Option D := listI fun l => some (.int l.sum)
def minD : List D → Option D := listI fun l => if l.isEmpty then none else some (.int (minL l))
def maxD : List D → Option D := listI fun l => if l.isEmpty then none else some (.int (maxL l))
theorem f_sum : CallE X sumD (rSum X.K) := by
  intro B W M H ρ σ ds z xs Q rp hp hf h
  obtain ⟨a, ns, rfl, hs, e⟩ := list_ints hp hf
  cases e
  exact ⟨a, ns, rfl, hs, post_v h rp (.int _)⟩
theorem f_min : CallE X minD (rMin X.K) := by
  intro B W M H ρ σ ds z xs Q rp hp hf h
  obtain ⟨a, ns, rfl, hs, e⟩ := list_ints hp hf
  cases ns with
  | nil => cases e
  | cons n ns =>
    cases e
    refine ⟨a, _, rfl, hs, by simp, fun m h1 h2 => ?_⟩
    have : m = minL (n :: ns) := Int.le_antisymm (h2 _ (minL_mem (by simp))) (minL_le h1)
    rw [this]
    exact post_v h rp (.int _)
theorem f_max : CallE X maxD (rMax X.K) := by
  intro B W M H ρ σ ds z xs Q rp hp hf h
  obtain ⟨a, ns, rfl, hs, e⟩ := list_ints hp hf
  cases ns with
  | nil => cases e
  | cons n ns =>
    cases e
    refine ⟨a, _, rfl, hs, by simp, fun m h1 h2 => ?_⟩
    have : m = maxL (n :: ns) := Int.le_antisymm (maxL_ge h1) (h2 _ (maxL_mem (by simp)))
    rw [this]
    exact post_v h rp (.int _)
/-- sorted, ints -/
def insI (i : Int) : List Int → List Int
  | [] => [i]
  | j :: l => if i ≤ j then i :: j :: l else j :: insI i l
def sortI (l : List Int) : List Int := l.foldr insI []
theorem insI_perm (i : Int) : ∀ l, (insI i l).Perm (i :: l)
  | [] => .refl _
  | j :: l => by
    unfold insI
    split
    · exact .refl _
    · exact ((insI_perm i l).cons j).trans (List.Perm.swap i j l)
theorem sortI_perm : ∀ l, (sortI l).Perm l
  | [] => .refl _
  | i :: l => (insI_perm i (sortI l)).trans ((sortI_perm l).cons i)
theorem insI_sorted (i : Int) : ∀ l : List Int, l.Pairwise (· ≤ ·) → (insI i l).Pairwise (· ≤ ·)
  | [], _ => List.pairwise_singleton _ _
  | j :: l, h => by
    unfold insI
    have h1 := List.pairwise_cons.mp h
    split
    · rename_i q
      refine List.pairwise_cons.mpr ⟨fun y hy => ?_, h⟩
      rcases List.mem_cons.mp hy with e | hy
      · subst e; exact q
      · exact Int.le_trans q (h1.1 y hy)
    · refine List.pairwise_cons.mpr ⟨fun y hy => ?_, insI_sorted i l h1.2⟩
      rcases List.mem_cons.mp ((insI_perm i l).mem_iff.mp hy) with e | hy
      · subst e; omega
      · exact h1.1 y hy
theorem sortI_sorted : ∀ l, (sortI l).Pairwise (· ≤ ·)
  | [] => .nil
  | i :: l => insI_sorted i _ (sortI_sorted l)
def sortedD : List D → Option D := listI fun l => if l.length < 64 then some (.lst ((sortI l).map .int)) else none
theorem rpl_ints {K : PySem.W.Frag} : ∀ ns : List Int, RpL K M H (ns.map D.int) (ns.map V.int)
  | [] => .nil
  | i :: ns => .cons (.int i) (rpl_ints ns)
theorem f_sorted : CallF X sortedD (rSorted X.K) := by
  intro B W M H ρ σ ds z xs Q rp hp hf h
  obtain ⟨a, ns, rfl, hs, e⟩ := list_ints hp hf
  split at e
  · rename_i hl
    cases e
    refine ⟨a, ns, rfl, hs, hl, fun ns' p hpm hso hn => ?_⟩
    have e2 : ns' = sortI ns := List.Perm.eq_of_pairwise (le := fun a b : Int => decide (a ≤ b)) (by intro a b _ _ h1 h2; simp at h1 h2; omega) (by simpa using hso) (by simpa using sortI_sorted ns) (hpm.trans (sortI_perm ns).symm)
    subst e2
    exact post_o h rp (rpl_ints _) (by rw [List.length_map, (sortI_perm ns).length_eq, sizeLine_eq]; omega) hn
  · cases e
def tupleD : List D → Option D
  | [.lst xs] => some (.tup xs)
  | [.tup xs] => some (.tup xs)
  | _ => none
theorem f_tuple : CallE X tupleD (fun xs H Q => ∃ p ys, xs = [.ref p] ∧ ((SqL X.K H p ys ∧ ∀ l, H l = none → Q (.ref l) (upd H l (.tup ys))) ∨ (SqT X.K H p ys ∧ Q (.ref p) H))) := by
  intro B W M H ρ σ ds z xs Q rp hp hf h
  unfold tupleD at hf
  split at hf
  · cases hf
    cases hp with | cons a b => cases b; obtain ⟨p, vs, rfl, l, h1, h2⟩ := rq_lst a; exact ⟨_, vs, rfl, .inl ⟨SqL.of h1, fun q hq => post_t h rp h2 l hq⟩⟩
  · cases hf
    cases hp with | cons a b => cases b; obtain ⟨p, vs, rfl, l, h1, h2⟩ := rq_tup a; exact ⟨_, vs, rfl, .inr ⟨h1, post_v h rp (.tup l h1 h2)⟩⟩
  · cases hf
def listD : List D → Option D
  | [.lst xs] => some (.lst xs)
  | [.tup xs] => some (.lst xs)
  | _ => none
theorem f_list : CallF X listD (fun xs H Q => ∃ p ys, xs = [.ref p] ∧ (SqL X.K H p ys ∨ SqT X.K H p ys) ∧ ∀ l, H l = none → Q (.ref l) (upd H l (.lst ys))) := by
  intro B W M H ρ σ ds z xs Q rp hp hf h
  unfold listD at hf
  split at hf
  · cases hf
    cases hp with | cons a b => cases b; obtain ⟨p, vs, rfl, l, h1, h2⟩ := rq_lst a; exact ⟨_, vs, rfl, .inl (SqL.of h1), fun q hq => post_o h rp h2 l hq⟩
  · cases hf
    cases hp with | cons a b => cases b; obtain ⟨p, vs, rfl, l, h1, h2⟩ := rq_tup a; exact ⟨_, vs, rfl, .inr h1, fun q hq => post_o h rp h2 l hq⟩
  · cases hf
def blsOf : List D → Option (List Bool)
  | [] => some []
  | .bl i :: ds => (blsOf ds).map fun l => i :: l
  | _ => none
theorem bls_rpl : ∀ {ds : List D} {ns : List Bool} {vs : List V}, blsOf ds = some ns → RpL X.K M H ds vs → vs = ns.map V.bl
  | [], ns, vs, e, h => by cases e; cases h; rfl
  | d :: ds, ns, vs, e, h => by
    cases d with
    | bl i =>
      cases h with
      | cons a b =>
        cases e2 : blsOf ds with
        | none => simp only [blsOf, e2] at e; cases e
        | some l =>
          simp only [blsOf, e2] at e
          cases e
          cases a
          rw [bls_rpl e2 b]; rfl
    | _ => cases e
def listB (f : List Bool → D) : List D → Option D
  | [.lst ds] => (blsOf ds).map f
  | _ => none
def anyD2 : List D → Option D := listB fun l => .bl (l.any id)
def allD2 : List D → Option D := listB fun l => .bl (l.all id)
theorem f_any : CallE X anyD2 (rAny X.K) := by
  intro B W M H ρ σ ds z xs Q rp hp hf h
  unfold anyD2 listB at hf
  split at hf
  · cases hp with
    | cons a b =>
      cases b
      obtain ⟨p, vs, rfl, l, h1, h2⟩ := rq_lst a
      rename_i ds'
      cases e : blsOf ds' with
      | none => rw [e] at hf; cases hf
      | some ns =>
        rw [e] at hf
        cases hf
        obtain rfl := bls_rpl e h2
        exact ⟨_, ns, rfl, SqL.of h1, post_v h rp (.bl _)⟩
  · cases hf
theorem f_all : CallE X allD2 (rAll X.K) := by
  intro B W M H ρ σ ds z xs Q rp hp hf h
  unfold allD2 listB at hf
  split at hf
  · cases hp with
    | cons a b =>
      cases b
      obtain ⟨p, vs, rfl, l, h1, h2⟩ := rq_lst a
      rename_i ds'
      cases e : blsOf ds' with
      | none => rw [e] at hf; cases hf
      | some ns =>
        rw [e] at hf
        cases hf
        obtain rfl := bls_rpl e h2
        exact ⟨_, ns, rfl, SqL.of h1, post_v h rp (.bl _)⟩
  · cases hf
def strD : List D → Option D
  | [.int i] => if i.natAbs.log2 < 1920 ∧ decide ((toString i).length ≤ sizeLine) && PySem.PyData.strOk (toString i : Str) then some (.str (toString i)) else none
  | _ => none
end
end NV

set_option Elab.async false
set_option linter.all false
set_option maxRecDepth 100000
set_option maxHeartbeats 4000000
/-! Core10: isinstance, tuple(range(..)), list(range(..)). -/
namespace NV
open PySem PySem.Spec PyProof.Rows L2

/-- the name of a value's type -/
def typ : D → String
  | .non => "NoneType"
  | .bl _ => "bool"
  | .int _ => "int"
  | .str _ => "str"
  | .tup _ => "tuple"
  | .lst _ => "list"
  | .dct _ => "dict"
  | .scr _ => "list"
  | .exn _ _ => "object"
inductive TyN where
  | bool | int | str | tuple | list | dict
def TyN.nm : TyN → String
  | .bool => "bool"
  | .int => "int"
  | .str => "str"
  | .tuple => "tuple"
  | .list => "list"
  | .dict => "dict"
def isT (T : TyN) (d : D) : Option D := match d, T with
  | .non, _ => some (.bl false)
  | .bl _, .bool => some (.bl true)
  | .bl _, .int => some (.bl true)
  | .bl _, _ => some (.bl false)
  | .int _, .int => some (.bl true)
  | .int _, _ => some (.bl false)
  | .str _, .str => some (.bl true)
  | .str _, _ => some (.bl false)
  | .tup _, .tuple => some (.bl true)
  | .tup _, _ => some (.bl false)
  | .lst _, .list => some (.bl true)
  | .lst _, _ => some (.bl false)
  | .dct _, .dict => some (.bl true)
  | .dct _, _ => some (.bl false)
  | .scr _, .list => some (.bl true)
  | .scr _, _ => some (.bl false)
  | .exn _ _, _ => none
theorem kit_typ {T : TyN} {d z : D} (h : isT T d = some z) : ∃ b, z = .bl b ∧ kitB (typ d) T.nm = some b := by
  cases d <;> cases T <;> cases h <;> exact ⟨_, rfl, by dsimp only [typ, TyN.nm]; decide +kernel⟩
theorem tyX_of {K : PySem.W.Frag} {M : Addr → Prop} {H : Hp} {d : D} {v : V} (h : Rq K M H d v) (hx : typ d ≠ "object") : TyX K H v (.type (typ d)) := by
  cases d with
  | non => cases h; exact .base .non
  | bl b => cases h; exact .base (.bl _)
  | int i => cases h; exact .base (.int _)
  | str x => cases h; exact .base (.str _)
  | tup ds =>
    obtain ⟨a, vs, rfl, l, h1, h2⟩ := rq_tup h
    rcases h1 with (h1 | ⟨o, h1⟩) | ⟨o, its, n, h1, h2, _⟩
    · exact .base (.tup h1)
    · exact .fTuple h1
    · exact .kTuple h1 h2
  | lst ds =>
    obtain ⟨a, vs, rfl, l, h1, h2⟩ := rq_lst h
    exact .base (.lst h1)
  | dct ds =>
    obtain ⟨a, vs, rfl, l, h1, h2⟩ := rq_dct h
    exact .base (.dK h1)
  | scr xs =>
    obtain ⟨a, rfl, l, h1⟩ := rq_scr h
    rcases h1 with ⟨o, h1⟩ | ⟨o, its, n, h1, h2, _⟩
    · exact .base (.frz h1)
    · exact .kList h1 h2
  | exn _ _ => exact absurd rfl hx
section
variable {X : Cx} {W : WX} {e : Expr} {p p2 pos : Pos}
def eIsT (T : TyN) (m : RM) : EM := fun ρ => (m ρ).bind fun x ρ1 => (ofO (x.get ρ1) ρ1).bind fun d _ => ofO (isT T d) ρ1
theorem de_isT (T : TyN) {y : Str} {m : RM} (he : DR X W e m) (hg : Gl X "isinstance") (hm : X.mg "isinstance" = none) (hg2 : Gl X y) (hm2 : X.mg y = none) (hv : bootBuiltins y = some (.type T.nm)) (hn : y ≠ "__name__" := by decide) (hd : (y == ("__debug__" : Str)) = false := by decide)
    (h1 : starEach [e, .Name y p2] X.env = (false, eval e X.env) :: starEach [.Name y p2] X.env := by rfl) (h2 : starEach [.Name y p2] X.env = (false, eval (.Name y p2) X.env) :: starEach [] X.env := by rfl) (hpl : (backTo pos (starEach [.Name y p2] X.env)).any (·.1) = false := by rfl) :
    DE X W (.Call (.Name "isinstance" p) [e, .Name y p2] [] pos) (eIsT T m) := by
  obtain ⟨t, pt, s⟩ := he
  refine ⟨_, pe_callB call_isi hg hm PyProof.Rows.boot_isinstance (pa_cons pt (pa_cons (pe_bltn (v := .ty T.nm) hg2 hm2 hv rfl hn hd) pa_nil h2) h1) (by decide) (by decide) h1 hpl, fun B M H ρ σ Q rp k => s B M H ρ σ _ rp (Post.seq k fun x ρ1 M1 H1 v x1 r1 q1 k1 => ?_)⟩
  cases ex : x.get ρ1 with
  | none => rw [ex] at k1; exact k1.elim
  | some d =>
    rw [ex] at k1
    cases ez : isT T d with
    | none => simp only [ofO, Res.bind, ez] at k1; exact k1.elim
    | some z =>
      simp only [ofO, Res.bind, ez] at k1
      obtain ⟨b, rfl, hb⟩ := kit_typ ez
      refine ⟨v, .ty T.nm, .type (typ d), .type T.nm, b, rfl, .ty _, tyX_of (q1.rq Ext.refl r1 ex) (fun z => ?_), kit_ty hb, k1 M1 H1 _ Ext.refl r1 (.bl _)⟩
      cases d <;> first | (exact absurd z (by dsimp only [typ]; decide +kernel)) | cases ez

/-! ### range(..) as an argument -/
def DRg (X : Cx) (W : WX) (e : Expr) (m : Env → Res (Int × Int)) : Prop := ∃ t, PRg X e t ∧
  ∀ (B : Base) (M : Addr → Prop) (H : Hp) (ρ : Env) (σ : St) (Q : Int → Int → Hp → Prop), Rep X.K B M H ρ σ → Post X B W (fun _ _ _ (a b : Int × Int) => a = b) M H σ (m ρ) (fun ab H' => Q ab.1 ab.2 H') → t σ H Q
def gRg1 (m : EM) : Env → Res (Int × Int) := fun ρ => (m ρ).bind fun d ρ1 => match d with
  | .int i => .ok (0, i) ρ1
  | _ => .bad
def gRg2 (m1 m2 : EM) : Env → Res (Int × Int) := fun ρ => (m1 ρ).bind fun d ρ1 => (m2 ρ1).bind fun e ρ2 => match d, e with
  | .int i, .int j => .ok (i, j) ρ2
  | _, _ => .bad
theorem drg1 {a : Expr} {m : EM} (hg : Gl X "range") (hm : X.mg "range" = none) (h : DE X W a m) (hs : starEach [a] X.env = (false, eval a X.env) :: starEach [] X.env := by rfl) : DRg X W (.Call (.Name "range" p) [a] [] pos) (gRg1 m) := by
  obtain ⟨t, pt, s⟩ := h
  refine ⟨_, prg_1 hg hm pt hs, fun B M H ρ σ Q rp k => s B M H ρ σ _ rp (Post.seq k fun d ρ1 M1 H1 v x1 r1 q1 k1 => ?_)⟩
  cases d with
  | int i => cases q1; exact ⟨i, rfl, k1 M1 H1 (0, i) Ext.refl r1 rfl⟩
  | _ => exact k1.elim
theorem drg2 {a b : Expr} {m1 m2 : EM} (hg : Gl X "range") (hm : X.mg "range" = none) (h : DE X W a m1) (h2 : DE X W b m2) (na : starEach [a, b] X.env = (false, eval a X.env) :: starEach [b] X.env := by rfl)
    (nb : starEach [b] X.env = (false, eval b X.env) :: starEach [] X.env := by rfl) (hp : (backTo pos (starEach [b] X.env)).any (·.1) = false := by rfl) : DRg X W (.Call (.Name "range" p) [a, b] [] pos) (gRg2 m1 m2) := by
  obtain ⟨t, pt, s⟩ := h
  obtain ⟨t2, pt2, s2⟩ := h2
  refine ⟨_, prg_2 hg hm pt pt2 na nb hp, fun B M H ρ σ Q rp k => s B M H ρ σ _ rp (Post.seq k fun d ρ1 M1 H1 v x1 r1 q1 k1 => ?_)⟩
  refine s2 B M1 H1 ρ1 σ _ r1 (Post.seq k1 fun e ρ2 M2 H2 v2 x2 r2 q2 k2 => ?_)
  cases d with
  | int i =>
    cases e with
    | int j => cases q1; cases q2; exact ⟨i, j, rfl, rfl, k2 M2 H2 (i, j) Ext.refl r2 rfl⟩
    | _ => exact k2.elim
  | _ => exact k2.elim
instance {a b : Int} : Decidable (RgOk a b) := by unfold RgOk; infer_instance
theorem rng_rpl {K : PySem.W.Frag} {M : Addr → Prop} {H : Hp} {a b : Int} : RpL K M H (rngD a (b - a).toNat) (rgV a b) := by
  unfold rngD rgV
  generalize List.range (b - a).toNat = l
  induction l with
  | nil => exact .nil
  | cons x l ih => exact .cons (.int _) ih
def eTupRg (m : Env → Res (Int × Int)) : EM := fun ρ => (m ρ).bind fun ab ρ1 => if RgOk ab.1 ab.2 then .ok (.tup (rngD ab.1 (ab.2 - ab.1).toNat)) ρ1 else .bad
def eLstRg (m : Env → Res (Int × Int)) : EM := fun ρ => (m ρ).bind fun ab ρ1 => if RgOk ab.1 ab.2 then .ok (.lst (rngD ab.1 (ab.2 - ab.1).toNat)) ρ1 else .bad
theorem de_tupRg {m : Env → Res (Int × Int)} (c : Cd X) (hg : Gl X "tuple") (hm : X.mg "tuple" = none) (he : DRg X W e m) (na : starEach [e] X.env = (false, eval e X.env) :: starEach [] X.env := by rfl) : DE X W (.Call (.Name "tuple" p) [e] [] pos) (eTupRg m) := by
  obtain ⟨t, pt, s⟩ := he
  refine ⟨_, pe_tupRg c.calm hg hm pt na, fun B M H ρ σ Q rp k => s B M H ρ σ _ rp (Post.seq k fun ab ρ1 M1 H1 v x1 r1 q1 k1 => ?_)⟩
  subst q1
  split at k1
  · rename_i hc
    refine ⟨hc, fun q hq => post_t k1 r1 rng_rpl ?_ hq⟩
    unfold rngD
    rw [List.length_map, List.length_range, sizeLine_eq]
    exact hc.2.2.2.2
  · exact k1.elim
theorem df_lstRg {m : Env → Res (Int × Int)} (c : Cd X) (hg : Gl X "list") (hm : X.mg "list" = none) (he : DRg X W e m) (na : starEach [e] X.env = (false, eval e X.env) :: starEach [] X.env := by rfl) : DF X W (.Call (.Name "list" p) [e] [] pos) (eLstRg m) := by
  obtain ⟨t, pt, s⟩ := he
  refine ⟨_, pe_listRg c.calm hg hm pt na, fun B M H ρ σ Q rp k => s B M H ρ σ _ rp (Post.seq k fun ab ρ1 M1 H1 v x1 r1 q1 k1 => ?_)⟩
  subst q1
  split at k1
  · rename_i hc
    refine ⟨hc, fun q hq => post_o k1 r1 rng_rpl ?_ hq⟩
    unfold rngD
    rw [List.length_map, List.length_range, sizeLine_eq]
    exact hc.2.2.2.2
  · exact k1.elim
end
end NV

set_option Elab.async false
set_option linter.all false
set_option maxRecDepth 100000
set_option maxHeartbeats 4000000
/-! Core11: the forms that a printed derivation uses. -/
namespace NV
open PySem PySem.Spec PyProof.Rows L2

/-! ### order, wide -/
def lt2 (d e : D) : Option D := match d, e with
  | .int i, .int j => some (.bl (decide (i < j)))
  | d, e => ordO PySem.W.dataLt d e
def gt2 (d e : D) : Option D := match d, e with
  | .int i, .int j => some (.bl (decide (j < i)))
  | d, e => ordO (fun d e => PySem.W.dataLt e d) d e
def le2 (d e : D) : Option D := match d, e with
  | .int i, .int j => some (.bl (decide (i ≤ j)))
  | d, e => ordO (fun d e => !PySem.W.dataLt e d) d e
def ge2 (d e : D) : Option D := match d, e with
  | .int i, .int j => some (.bl (decide (j ≤ i)))
  | d, e => ordO (fun d e => !PySem.W.dataLt d e) d e
section
variable {X : Cx} {W : WX}
def rLt2 (K : PySem.W.Frag) : R2 := fun x y H Q => rI0 (fun i j => .bl (decide (i < j))) x y H Q ∨ rOrd K PySem.W.dataLt x y H Q
def rGt2 (K : PySem.W.Frag) : R2 := fun x y H Q => rI0 (fun i j => .bl (decide (j < i))) x y H Q ∨ rOrd K (fun d e => PySem.W.dataLt e d) x y H Q
def rLe2 (K : PySem.W.Frag) : R2 := fun x y H Q => rI0 (fun i j => .bl (decide (i ≤ j))) x y H Q ∨ rOrd K (fun d e => !PySem.W.dataLt e d) x y H Q
def rGe2 (K : PySem.W.Frag) : R2 := fun x y H Q => rI0 (fun i j => .bl (decide (j ≤ i))) x y H Q ∨ rOrd K (fun d e => !PySem.W.dataLt d e) x y H Q
theorem op_lt2 (c : Cd X) : OpR X (compareOp .Lt) (rLt2 X.K) := op_lt.or (op_ltD c)
theorem op_gt2 (c : Cd X) : OpR X (compareOp .Gt) (rGt2 X.K) := op_gt.or (op_gtD c)
theorem op_le2 (c : Cd X) : OpR X (compareOp .LtE) (rLe2 X.K) := op_le.or (op_leD c)
theorem op_ge2 (c : Cd X) : OpR X (compareOp .GtE) (rGe2 X.K) := op_ge.or (op_geD c)
theorem o_lt2 : OpE X lt2 (rLt2 X.K) := by
  intro B W M H ρ σ d e z x y Q rp hx hy hf h
  unfold lt2 at hf
  split at hf
  · exact .inl (o_lt B W M H ρ σ _ _ z x y Q rp hx hy hf h)
  · exact .inr (o_ord B W M H ρ σ _ _ z x y Q rp hx hy hf h)
theorem o_gt2 : OpE X gt2 (rGt2 X.K) := by
  intro B W M H ρ σ d e z x y Q rp hx hy hf h
  unfold gt2 at hf
  split at hf
  · exact .inl (o_gt B W M H ρ σ _ _ z x y Q rp hx hy hf h)
  · exact .inr (o_ord B W M H ρ σ _ _ z x y Q rp hx hy hf h)
theorem o_le2 : OpE X le2 (rLe2 X.K) := by
  intro B W M H ρ σ d e z x y Q rp hx hy hf h
  unfold le2 at hf
  split at hf
  · exact .inl (o_le B W M H ρ σ _ _ z x y Q rp hx hy hf h)
  · exact .inr (o_ord B W M H ρ σ _ _ z x y Q rp hx hy hf h)
theorem o_ge2 : OpE X ge2 (rGe2 X.K) := by
  intro B W M H ρ σ d e z x y Q rp hx hy hf h
  unfold ge2 at hf
  split at hf
  · exact .inl (o_ge B W M H ρ σ _ _ z x y Q rp hx hy hf h)
  · exact .inr (o_ord B W M H ρ σ _ _ z x y Q rp hx hy hf h)

/-! ### a ghost step that may find nothing to do -/
def sFz (i : Nat) (m : SM) : SM := fun ρ => match ρ[i]? with
  | some (.o d) => m (ρ.set i (.v d))
  | _ => m ρ
theorem ds_fz {st : Stmt} (i : Nat) {m : SM} (h : DS X W st m) : DS X W st (sFz i m) := by
  obtain ⟨t, p, s⟩ := h
  refine ⟨t, p, fun B M H ρ σ E r h => ?_⟩
  unfold sFz at h
  split at h
  · rename_i d hd
    obtain ⟨M', sub, r'⟩ := r.frz hd
    exact s B M' H _ σ E r' (PostS.shift (Ext.sub sub) h)
  · exact s B M H _ σ E r h

/-! ### x = [.. for ..] -/
section
variable {elt tg iter : Expr} {ifs : List Expr} {scope : Scope} {own : List (Str × Nat)} {pos spos py : Pos} {mi : Env → Res (List D)} {g : D → Env → Option Env} {mt : TM} {me : EM} {vs : List Nat} {i : Nat} {y : Str}
theorem ds_setLcO (c : Cd X) (hN : X.N.Nodup) (hy : X.N[i]? = some y) (hyl : X.env.scope.names.lookup y = some .local) (hsw : swapsWith (.ListComp elt [⟨tg, iter, ifs, 0⟩] scope pos) (some (.Name y py)) spos.line X.env = pure true) (hi : DI X W tg iter mi) (ok : BlkOk X.N X.env.scope scope own)
    (hg : ∀ (s : Shared) (H : Hp) (C : Addr) (cl : List (Str × Addr)) (fp : List Addr), DG (X.blk s H scope (compEnvC scope cl C X.env) fp) tg g vs)
    (ht : ∀ (s : Shared) (H : Hp) (C : Addr) (cl : List (Str × Addr)) (fp : List Addr), DTs (X.blk s H scope (compEnvC scope cl C X.env) fp) (fun _ _ _ _ => False) ifs mt)
    (he : ∀ (s : Shared) (H : Hp) (C : Addr) (cl : List (Str × Addr)) (fp : List Addr), DE (X.blk s H scope (compEnvC scope cl C X.env) fp) (fun _ _ _ _ => False) elt me) (ev : own.map (·.2) = vs := by rfl) (hs : ∀ x, foldedSetIterable iter X.env x = pure x := by intro _; rfl) :
    DS X W (.Assign [.Name y py] (.ListComp elt [⟨tg, iter, ifs, 0⟩] scope pos) spos) (sSetO i (eComp mi g mt me vs)) := by
  obtain ⟨wi, pi, si⟩ := hi
  subst ev
  have s := comp_sat (X := X) (W := W) (wi := wi) (mi := mi) (g := g) (mt := mt) (me := me) (vs := own.map (·.2)) si
  refine ⟨_, ps_setLc (tt := ttCan X (fun _ _ _ _ => False) mt) c.calm hN hy hyl hsw pi ok (fun s H C cl fp => can_g (hg s H C cl fp)) (fun s H C cl fp => ht s H C cl fp) (fun s H C cl fp => can_e (he s H C cl fp)) hs, fun B M H ρ σ E r h => s B M H ρ σ _ r (PostS.out (R := RelF X.K B σ) h fun d ρ1 M1 H1 v x1 r1 q1 k1 => ?_)⟩
  obtain ⟨a, rfl, w, hb, an, np⟩ := q1
  exact k1 M1 H1 _ Ext.refl (r1.setO i w hb an np)
theorem ds_setLc (c : Cd X) (hN : X.N.Nodup) (hy : X.N[i]? = some y) (hyl : X.env.scope.names.lookup y = some .local) (hsw : swapsWith (.ListComp elt [⟨tg, iter, ifs, 0⟩] scope pos) (some (.Name y py)) spos.line X.env = pure true) (hi : DI X W tg iter mi) (ok : BlkOk X.N X.env.scope scope own)
    (hg : ∀ (s : Shared) (H : Hp) (C : Addr) (cl : List (Str × Addr)) (fp : List Addr), DG (X.blk s H scope (compEnvC scope cl C X.env) fp) tg g vs)
    (ht : ∀ (s : Shared) (H : Hp) (C : Addr) (cl : List (Str × Addr)) (fp : List Addr), DTs (X.blk s H scope (compEnvC scope cl C X.env) fp) (fun _ _ _ _ => False) ifs mt)
    (he : ∀ (s : Shared) (H : Hp) (C : Addr) (cl : List (Str × Addr)) (fp : List Addr), DE (X.blk s H scope (compEnvC scope cl C X.env) fp) (fun _ _ _ _ => False) elt me) (ev : own.map (·.2) = vs := by rfl) (hs : ∀ x, foldedSetIterable iter X.env x = pure x := by intro _; rfl) :
    DS X W (.Assign [.Name y py] (.ListComp elt [⟨tg, iter, ifs, 0⟩] scope pos) spos) (sSet i (eComp mi g mt me vs)) := by
  obtain ⟨wi, pi, si⟩ := hi
  subst ev
  have s := comp_sat (X := X) (W := W) (wi := wi) (mi := mi) (g := g) (mt := mt) (me := me) (vs := own.map (·.2)) si
  refine ⟨_, ps_setLc (tt := ttCan X (fun _ _ _ _ => False) mt) c.calm hN hy hyl hsw pi ok (fun s H C cl fp => can_g (hg s H C cl fp)) (fun s H C cl fp => ht s H C cl fp) (fun s H C cl fp => can_e (he s H C cl fp)) hs, fun B M H ρ σ E r h => s B M H ρ σ _ r (PostS.out (R := RelF X.K B σ) h fun d ρ1 M1 H1 v x1 r1 q1 k1 => ?_)⟩
  obtain ⟨a, rfl, w, hb, an, np⟩ := q1
  exact k1 _ H1 _ (Ext.sub fun _ z => z.1) ((r1.drop hb an np).setV i w.rp)
end
end

/-! ### defs that are at hand -/
def Has (P : Program) (w : World) (K : PySem.W.Frag) (mg : Str → Option Value) (base : Heap) (k : Nat) (x : Str) (fl : List Bool) (F : List D → FRes) : Prop :=
  ∃ (f : Addr) (fd : FuncData) (ps : List Str), FnOk P w K mg base (L2.CX P w) k f fd ps (spF K mg fl F) ∧ mg x = some (.ref f) ∧ PySem.W.keepIn K (.ref f) = true ∧ Binds K fd ps []
section
variable {X : Cx} {W : WX} {k n : Nat} {x : Str} {p pos : Pos} {e : Expr} {es : List Expr} {fl : List Bool} {F : List D → FRes} {ma : AM}
theorem de_callH (h : Has X.prog X.w X.K X.mg X.base k x fl F) (hr : Room n X.A) (hg : Gl X x) (tk : Takes X W) (ha : DA X W (e :: es) ma) (hk : k ≤ n := by decide)
    (hdb : (x == ("__debug__" : Str)) = false := by decide) (he : starEach (e :: es) X.env = (false, eval e X.env) :: starEach es X.env := by rfl) (hpl : (backTo pos (starEach es X.env)).any (·.1) = false := by rfl) : DE X W (.Call (.Name x p) (e :: es) [] pos) (eCall fl false F ma) := by
  obtain ⟨f, fd, ps, h1, h2, h3, h4⟩ := h
  exact de_call (h1.mono hk) hr hg h2 h3 h4 tk ha hdb he hpl
theorem df_callH (h : Has X.prog X.w X.K X.mg X.base k x fl F) (hr : Room n X.A) (hg : Gl X x) (tk : Takes X W) (ha : DA X W (e :: es) ma) (hk : k ≤ n := by decide)
    (hdb : (x == ("__debug__" : Str)) = false := by decide) (he : starEach (e :: es) X.env = (false, eval e X.env) :: starEach es X.env := by rfl) (hpl : (backTo pos (starEach es X.env)).any (·.1) = false := by rfl) : DF X W (.Call (.Name x p) (e :: es) [] pos) (eCall fl true F ma) := by
  obtain ⟨f, fd, ps, h1, h2, h3, h4⟩ := h
  exact df_call (h1.mono hk) hr hg h2 h3 h4 tk ha hdb he hpl
end
abbrev FnP (K : PySem.W.Frag) (x : Str) (st : Stmt) (f : Addr) (fd : FuncData) : Prop := FunD K x x (defArgs st) (defBody st) (defScope st) [] [] f fd
theorem cd_of {X : Cx} {k : Nat} (hr : Room k X.A) (hc : X.calm = true := by rfl) : Cd X := ⟨hc, hr.units⟩
theorem fn_defD {P : Program} {w : World} {K : PySem.W.Frag} {mg : Str → Option Value} {base : Heap} {x : Str} {st : Stmt} {f : Addr} {fd : FuncData} {N ps : List Str} {k : Nat} {fl : List Bool} {m : SM} (F : FnP K x st f fd) (S : FnScope N ps (defScope st)) (hf : fl.length = ps.length)
    (der : ∀ (cdv : Value) (A : Around) (outer : List PySem.Env) (s : Shared) (H : Hp) (E : XK), Room k (A.deeper (envOfC x (defScope st) s.heap.objs.size f cdv)) →
      DSs (cxOf (L2.CX P w) P w K mg base N x (defScope st) f cdv A outer s H E) (fun c dx _ H' => E c dx H') (defBody st) m) : FnOk P w K mg base (L2.CX P w) (k + 1) f fd ps (spF K mg fl (runF fl N.length m)) := by
  obtain ⟨oc, od, dV, kV, doc, pm, an, cdv, ct, osl, e, lk, hcd, hD, _⟩ := F.ex
  rcases hD with ⟨_, rfl⟩ | ⟨e2, _⟩
  · exact fn_def (F := ⟨⟨oc, od, kV, doc, pm, an, cdv, ct, osl, e, lk, hcd⟩, F.kp⟩) S hf der
  · exact absurd rfl e2
theorem has_of {P : Program} {w : World} {K : PySem.W.Frag} {mg : Str → Option Value} {base : Heap} {x : Str} {st : Stmt} {f : Addr} {fd : FuncData} {ps : List Str} {k : Nat} {fl : List Bool} {F : List D → FRes} (D : FnP K x st f fd) (h : FnOk P w K mg base (L2.CX P w) k f fd ps (spF K mg fl F)) (g : mg x = some (.ref f))
    (hb : ∀ (kV doc pm : Value) (an : Option Addr) (cdv ct : Value) (us : List Value), us.length = ps.length → bindArgs (PySem.W.fnOf x x (defArgs st) (defBody st) (defScope st) .none kV doc pm an cdv ct) ⟨us, []⟩ = pure (ps.zip us)) : Has P w K mg base k x fl F :=
  ⟨f, fd, ps, h, g, D.kp, D.bindsN hb⟩
end NV

set_option Elab.async false
set_option linter.all false
set_option maxRecDepth 100000
set_option maxHeartbeats 4000000
/-! CoreS: set(..) of texts. -/
namespace NVS
open PySem PySem.Spec PyProof.Rows
abbrev strKind := @PySem.strKind
def stepS (acc : List Str) (x : Str) : List Str := if x ∈ acc then acc else acc ++ [x]
/-- without the repeated ones -/
def dd (xs : List Str) : List Str := xs.foldl stepS []
theorem dd_snoc (xs : List Str) (x : Str) : dd (xs ++ [x]) = stepS (dd xs) x := by
  unfold dd
  rw [List.foldl_append]
  rfl
theorem stepS_mem (acc : List Str) (x y : Str) : y ∈ stepS acc x ↔ y ∈ acc ∨ y = x := by
  unfold stepS
  by_cases h : x ∈ acc
  · rw [if_pos h]
    exact ⟨.inl, fun z => z.elim id fun e => e ▸ h⟩
  · rw [if_neg h]
    simp
theorem stepS_len (acc : List Str) (x : Str) : (stepS acc x).length = if decide (x ∈ acc) then acc.length else acc.length + 1 := by
  unfold stepS
  by_cases h : x ∈ acc <;> simp [h]
theorem foldS_len : ∀ (xs acc : List Str), (xs.foldl stepS acc).length ≤ acc.length + xs.length
  | [], acc => Nat.le_refl _
  | x :: xs, acc => by
    have h := foldS_len xs (stepS acc x)
    have h2 := stepS_len acc x
    rw [List.foldl_cons, List.length_cons]
    split at h2 <;> omega
theorem dd_len (xs : List Str) : (dd xs).length ≤ xs.length := by
  have := foldS_len xs []
  simpa [dd] using this
def emptySet (led : Bool) : Obj := { cls := .type "set", dict := none, data := .set #[] 0 (.fresh 0 0 led) }
section
variable {pr : Program} {wo : World} {A : Around} {R : Result → Shared → Prop} {I : Addr} {fp wr : List Addr} {G : Array GenState → Array GenState → Prop} {n : Nat} {P : Nat → Value → Prop} {Sx : Nat → Shared → Prop}
theorem upd_strs (W : WalksS pr wo A.in1 I fp wr G n P Sx) (S : Addr) (notIn : S ∉ fp) (xs : List Str) (sz : xs.length = n) (vals : ∀ (i : Nat) (u : Value), P i u → ∃ x t, xs[i]? = some x ∧ u = .str x t) (few : n + 1 < scanBound) :
    ∀ (k i : Nat) (st : Shared), n - i = k → i ≤ n → Sx i st → st.heap.SetOf (strKind pr wo) S (fun y => decide (y ∈ dd (xs.take i))) (dd (xs.take i)).length →
      (∀ st', Moved (S :: wr) G st st' → st'.heap.SetOf (strKind pr wo) S (fun y => decide (y ∈ dd (xs.take n))) (dd (xs.take n)).length → R (.ok (.ret .none)) st') →
      codeAny (model pr wo) A (.builtin "set.update.loop" ⟨[.ref S, .ref I], []⟩) R st := by
  have notW : S ∉ wr := fun z => notIn (W.sub _ z)
  have inc : ∀ b ∈ wr, b ∈ S :: wr := fun b hb => List.mem_cons_of_mem _ hb
  intro k
  induction k with
  | zero =>
    intro i st hk hi hst hS hR
    obtain rfl : i = n := by omega
    refine codeAny_builtin F.entry_set_update_loop ?_
    rw [Around.under_plainId F.plain_set_update_loop _]
    show wpAny _ A.in1 (pyNext (.ref I) >>= _) _ _ st
    refine wpAny_bind (W.done st _ _ hst fun st' mv => ?_)
    show wpAny _ A.in1 (ret Value.none) _ _ st'
    obtain ⟨ob, es, ep, tb, ho, rest⟩ := hS
    exact wpAny_pure (hR st' (mv.mono inc) ⟨ob, es, ep, tb, mv.heap S _ notW ho, rest⟩)
  | succ k ih =>
    intro i st hk hi hst hS hR
    have lt : i < n := by omega
    refine codeAny_builtin F.entry_set_update_loop ?_
    rw [Around.under_plainId F.plain_set_update_loop _]
    show wpAny _ A.in1 (pyNext (.ref I) >>= _) _ _ st
    refine wpAny_bind (W.item i st _ _ lt hst fun u st' hP hst' mv => ?_)
    obtain ⟨x, t, hx, rfl⟩ := vals i u hP
    have hS' : st'.heap.SetOf (strKind pr wo) S (fun y => decide (y ∈ dd (xs.take i))) (dd (xs.take i)).length := by
      obtain ⟨ob, es, ep, tb, ho, rest⟩ := hS
      exact ⟨ob, es, ep, tb, mv.heap S _ notW ho, rest⟩
    show wpAny _ A.in1 (holding [Value.str x t] (setAdd S (.str x t)) >>= _) _ _ st'
    refine wpAny_bind (wpAny_holding ?_)
    unfold setAdd
    refine wpAny_holding ?_
    have isx : (strKind pr wo).is x (.str x t) = true := by show Value.isStrOf x (.str x t) = true; simp [Value.isStrOf]
    refine wpAny_bind ((strKind pr wo).pyHash (k := x) isx ?_)
    have room : (dd (xs.take i)).length + 1 < scanBound := by
      have := dd_len (xs.take i)
      rw [List.length_take] at this
      omega
    have et : xs.take (i + 1) = xs.take i ++ [x] := by rw [List.take_add_one, hx]; rfl
    refine wpAny_setAddHashed_of (knd := strKind pr wo) (s := { st' with toks := st'.toks + 1 }) isx rfl hS' room fun g sb hS2 => ?_
    have hSi : g.SetOf (strKind pr wo) S (fun y => decide (y ∈ dd (xs.take (i + 1)))) (dd (xs.take (i + 1))).length :=
      SetOf_congr hS2 (fun y => by
        rw [et, dd_snoc]
        by_cases h1 : y ∈ dd (xs.take i) <;> by_cases h2 : y = x <;> simp [stepS_mem, h1, h2]) (by rw [et, dd_snoc, stepS_len])
    refine wpAny_pure ⟨plainId_quiet F.plain_set_update_loop _, ih (i + 1) _ (by omega) lt (W.frame _ st' _ _ hst' (Nat.le_succ _) fun b hb ob e => ?_) hSi fun st3 mv3 hS3 => ?_⟩
    · rw [sb.2 b (fun z : b = S => notIn (by rw [← z]; exact hb))]; exact e
    · refine hR st3 (Moved.trans W.gtrans ((mv.mono inc).then_heap (Nat.le_succ _) fun b ob hb e => ?_) mv3) hS3
      rw [sb.2 b (fun z : b = S => hb (by rw [z]; exact List.mem_cons_self))]; exact e
end
section
variable {pr : Program} {wo : World} {A : Around} {X0 : Value → Shared → Prop} {st : Shared}
set_option maxHeartbeats 8000000

theorem set_of_list {src : Addr} {arr : Array Value} {xs : List Str} {R : Value → Shared → Prop} (calm : A.handled = none) (isSrc : st.heap.IsList src arr) (sz : arr.size = xs.length)
    (vals : ∀ (i : Nat) (u : Value), arr[i]? = some u → ∃ x t, xs[i]? = some x ∧ u = .str x t) (few : xs.length + 1 < scanBound)
    (done : ∀ (g : Heap) (k : Nat), g.SetOf (strKind pr wo) st.heap.objs.size (fun y => decide (y ∈ dd xs)) (dd xs).length →
      (∀ b ob, b < st.heap.objs.size → st.heap.get? b = some ob → g.get? b = some ob) → R (.ref st.heap.objs.size) { st with heap := g, toks := k }) :
    wpAny (model pr wo) A (call (.type "set") [.ref src]) R X0 st := by
  obtain ⟨m1, m2, m3⟩ := F.called_set.mro
  have m4 := F.called_set.made
  have m5 := F.called_set.sub
  refine wpAny_call (codeAny_of_tree ?_)
  show wpAny _ _ (callAny (.type "set") _) _ _ _
  refine wpAny_pure ⟨Code.quiet_builtin _ (by decide +kernel), codeAny_builtin F.entry_type_call ?_⟩
  rw [Around.under_plain (weight_type_call_type "set" [.ref src] []) rfl]
  have m6 := F.called_set.notType
  have m7 := F.called_set.canCreate
  have m8 := F.typeCall_set_1 (.ref src)
  repeat (any_goals (first | assumption | wp_step))
  refine codeAny_mono (code_set_new_1 (.ref src) (E := X0) (Q₁ := fun ob st1 => ∃ led : Bool, ob = .ref st.heap.objs.size ∧ st1 = { st with heap := st.heap.push (emptySet led) }) fun led => ⟨led, rfl, rfl⟩) fun z st1 hz => ?_
  cases z with
  | error e => exact hz
  | ok fl =>
    cases fl with
    | ret ob =>
      obtain ⟨led, rfl, rfl⟩ := hz
      have at1 : (st.heap.push (emptySet led)).get? st.heap.objs.size = some (emptySet led) := Heap.get?_push_size _ rfl
      have ty1 : Shared.TypeIs { st with heap := st.heap.push (emptySet led) } (.ref st.heap.objs.size) "set" := ⟨_, at1, rfl⟩
      have m9 := F.called_set.init.lookup
      have m10 := F.called_set.init.bind (.ref st.heap.objs.size)
      repeat (any_goals (first | assumption | wp_step))
      refine codeAny_mono (codeAny_call_builtin (R := wants (fun z st2 => z = .none ∧ ∃ g k, st2 = { st with heap := g, toks := k } ∧ g.SetOf (strKind pr wo) st.heap.objs.size (fun y => decide (y ∈ dd xs)) (dd xs).length ∧
          (∀ b ob, b < st.heap.objs.size → st.heap.get? b = some ob → g.get? b = some ob)) X0) F.called_set.init.plain F.entry_set_init (check_set_init_1 ty1 ?_)) fun z2 st2 hz2 => ?_
      · obtain ⟨os, hos, cs, ns, ds⟩ := isSrc
        obtain ⟨q1, q2, q3, q4⟩ := os
        simp only at cs ds
        subst cs; subst ds
        have at2 : (st.heap.push (emptySet led)).get? src = some { cls := .type "list", dict := q2, data := .seq arr ns, slots := q4 } := Heap.get?_push_of_some _ hos
        have m11 := F.sub_list_set
        have m12 := F.sub_list_frozenset
        have m13 : (Value.type "list" == Value.type "dict") = false := by decide
        have is2 : (st.heap.push (emptySet led)).IsList src arr := ⟨_, at2, rfl, ns, rfl⟩
        unfold Builtin.«set.__init__» noKeywords Builtin.Frozenset.updateFrom
        generalize hPI : pyIter = PI
        wp_walk
        subst hPI
        refine wpAny_pyIter_list is2 ?_
        refine wpAny_bind (wpAny_runValue ?_)
        have lt : src < st.heap.objs.size := Heap.lt_size hos
        have c3 : A.in1.in1.in1.handled = none := by simp [calm]
        have ne1 : src ≠ (st.heap.push (emptySet led)).objs.size := by
          rw [Heap.size_push]; exact Nat.ne_of_lt (Nat.lt_succ_of_lt lt)
        have ne2 : st.heap.objs.size ∉ [(st.heap.push (emptySet led)).objs.size, src] := by
          rw [Heap.size_push]; simp only [List.mem_cons, List.mem_singleton, List.not_mem_nil, or_false, not_or]
          exact ⟨Nat.ne_of_lt (Nat.lt_succ_self _), Nat.ne_of_gt lt⟩
        refine upd_strs (n := arr.size) ((Walks.list c3 _ src ne1 arr).toS) st.heap.objs.size ne2 xs sz.symm vals (by omega) (arr.size - 0) 0 _ (by omega) (Nat.zero_le _) ⟨⟨_, Heap.get?_push_size _ rfl, rfl, rfl⟩, (is2.push _)⟩ ?start ?stop
        case start =>
          have at3 : ((st.heap.push (emptySet led)).push { cls := .type "list_iterator", data := .fields #[.ref src, .int 0 0] }).get? st.heap.objs.size = some (emptySet led) := Heap.get?_push_of_some _ at1
          exact SetOf_congr ((setObjOf_fresh (knd := strKind pr wo) led).setOf at3 (by unfold scanBound; omega)) (fun _ => by simp [dd]) rfl
        case stop =>
          intro st3 mv hS
          obtain ⟨g, g2, d2, k2, o2⟩ := st3
          have e1 : g2 = st.gens := mv.gens
          have e2 : d2 = st.drawn := mv.drawn
          have e3 : o2 = st.os := mv.os
          subst e1; subst e2; subst e3
          show wpAny _ _ _ _ _ _
          refine wpAny_pure ?_
          show wpAny _ _ (ret Value.none) _ _ _
          rw [List.take_of_length_le (by omega)] at hS
          refine wpAny_pure ⟨rfl, g, k2, rfl, hS, fun b ob hb e => ?_⟩
          have n1 : b ≠ st.heap.objs.size := Nat.ne_of_lt hb
          have n2 : b ≠ (st.heap.push (emptySet led)).objs.size := by
            rw [Heap.size_push]; exact Nat.ne_of_lt (Nat.lt_succ_of_lt hb)
          exact mv.heap b ob (by simp only [List.mem_cons, List.mem_singleton, List.not_mem_nil, or_false, not_or]; exact ⟨n1, n2⟩) (Heap.get?_push_of_some _ (Heap.get?_push_of_some _ e))
      · cases z2 with
        | error e => exact hz2
        | ok fl2 =>
          cases fl2 with
          | ret z3 =>
            obtain ⟨rfl, g, k, rfl, hS, hk⟩ := hz2
            repeat (any_goals (first | assumption | wp_step))
            exact done _ _ hS hk
          | _ => exact hz2.elim
    | _ => exact hz.elim

theorem set_of_tuple {src : Addr} {arr : Array Value} {xs : List Str} {R : Value → Shared → Prop} (calm : A.handled = none) (isSrc : st.heap.IsTuple src arr) (sz : arr.size = xs.length)
    (vals : ∀ (i : Nat) (u : Value), arr[i]? = some u → ∃ x t, xs[i]? = some x ∧ u = .str x t) (few : xs.length + 1 < scanBound)
    (done : ∀ (g : Heap) (k : Nat), g.SetOf (strKind pr wo) st.heap.objs.size (fun y => decide (y ∈ dd xs)) (dd xs).length →
      (∀ b ob, b < st.heap.objs.size → st.heap.get? b = some ob → g.get? b = some ob) → R (.ref st.heap.objs.size) { st with heap := g, toks := k }) :
    wpAny (model pr wo) A (call (.type "set") [.ref src]) R X0 st := by
  obtain ⟨m1, m2, m3⟩ := F.called_set.mro
  have m4 := F.called_set.made
  have m5 := F.called_set.sub
  refine wpAny_call (codeAny_of_tree ?_)
  show wpAny _ _ (callAny (.type "set") _) _ _ _
  refine wpAny_pure ⟨Code.quiet_builtin _ (by decide +kernel), codeAny_builtin F.entry_type_call ?_⟩
  rw [Around.under_plain (weight_type_call_type "set" [.ref src] []) rfl]
  have m6 := F.called_set.notType
  have m7 := F.called_set.canCreate
  have m8 := F.typeCall_set_1 (.ref src)
  repeat (any_goals (first | assumption | wp_step))
  refine codeAny_mono (code_set_new_1 (.ref src) (E := X0) (Q₁ := fun ob st1 => ∃ led : Bool, ob = .ref st.heap.objs.size ∧ st1 = { st with heap := st.heap.push (emptySet led) }) fun led => ⟨led, rfl, rfl⟩) fun z st1 hz => ?_
  cases z with
  | error e => exact hz
  | ok fl =>
    cases fl with
    | ret ob =>
      obtain ⟨led, rfl, rfl⟩ := hz
      have at1 : (st.heap.push (emptySet led)).get? st.heap.objs.size = some (emptySet led) := Heap.get?_push_size _ rfl
      have ty1 : Shared.TypeIs { st with heap := st.heap.push (emptySet led) } (.ref st.heap.objs.size) "set" := ⟨_, at1, rfl⟩
      have m9 := F.called_set.init.lookup
      have m10 := F.called_set.init.bind (.ref st.heap.objs.size)
      repeat (any_goals (first | assumption | wp_step))
      refine codeAny_mono (codeAny_call_builtin (R := wants (fun z st2 => z = .none ∧ ∃ g k, st2 = { st with heap := g, toks := k } ∧ g.SetOf (strKind pr wo) st.heap.objs.size (fun y => decide (y ∈ dd xs)) (dd xs).length ∧
          (∀ b ob, b < st.heap.objs.size → st.heap.get? b = some ob → g.get? b = some ob)) X0) F.called_set.init.plain F.entry_set_init (check_set_init_1 ty1 ?_)) fun z2 st2 hz2 => ?_
      · obtain ⟨os, hos, cs, ns, ds⟩ := isSrc
        obtain ⟨q1, q2, q3, q4⟩ := os
        simp only at cs ds
        subst cs; subst ds
        have at2 : (st.heap.push (emptySet led)).get? src = some { cls := .type "tuple", dict := q2, data := .seq arr ns, slots := q4 } := Heap.get?_push_of_some _ hos
        have m11 := F.sub_tuple_set
        have m12 := F.sub_tuple_frozenset
        have m13 : (Value.type "tuple" == Value.type "dict") = false := by decide
        have is2 : (st.heap.push (emptySet led)).IsTuple src arr := ⟨_, at2, rfl, ns, rfl⟩
        unfold Builtin.«set.__init__» noKeywords Builtin.Frozenset.updateFrom
        generalize hPI : pyIter = PI
        wp_walk
        subst hPI
        refine wpAny_pyIter_tuple is2 ?_
        refine wpAny_bind (wpAny_runValue ?_)
        have lt : src < st.heap.objs.size := Heap.lt_size hos
        have c3 : A.in1.in1.in1.handled = none := by simp [calm]
        have ne1 : src ≠ (st.heap.push (emptySet led)).objs.size := by
          rw [Heap.size_push]; exact Nat.ne_of_lt (Nat.lt_succ_of_lt lt)
        have ne2 : st.heap.objs.size ∉ [(st.heap.push (emptySet led)).objs.size, src] := by
          rw [Heap.size_push]; simp only [List.mem_cons, List.mem_singleton, List.not_mem_nil, or_false, not_or]
          exact ⟨Nat.ne_of_lt (Nat.lt_succ_self _), Nat.ne_of_gt lt⟩
        refine upd_strs (n := arr.size) ((Walks.tuple c3 _ src ne1 arr).toS) st.heap.objs.size ne2 xs sz.symm vals (by omega) (arr.size - 0) 0 _ (by omega) (Nat.zero_le _) ⟨⟨_, Heap.get?_push_size _ rfl, rfl, rfl⟩, (is2.push _)⟩ ?start ?stop
        case start =>
          have at3 : ((st.heap.push (emptySet led)).push { cls := .type "tuple_iterator", data := .fields #[.ref src, .int 0 0] }).get? st.heap.objs.size = some (emptySet led) := Heap.get?_push_of_some _ at1
          exact SetOf_congr ((setObjOf_fresh (knd := strKind pr wo) led).setOf at3 (by unfold scanBound; omega)) (fun _ => by simp [dd]) rfl
        case stop =>
          intro st3 mv hS
          obtain ⟨g, g2, d2, k2, o2⟩ := st3
          have e1 : g2 = st.gens := mv.gens
          have e2 : d2 = st.drawn := mv.drawn
          have e3 : o2 = st.os := mv.os
          subst e1; subst e2; subst e3
          show wpAny _ _ _ _ _ _
          refine wpAny_pure ?_
          show wpAny _ _ (ret Value.none) _ _ _
          rw [List.take_of_length_le (by omega)] at hS
          refine wpAny_pure ⟨rfl, g, k2, rfl, hS, fun b ob hb e => ?_⟩
          have n1 : b ≠ st.heap.objs.size := Nat.ne_of_lt hb
          have n2 : b ≠ (st.heap.push (emptySet led)).objs.size := by
            rw [Heap.size_push]; exact Nat.ne_of_lt (Nat.lt_succ_of_lt hb)
          exact mv.heap b ob (by simp only [List.mem_cons, List.mem_singleton, List.not_mem_nil, or_false, not_or]; exact ⟨n1, n2⟩) (Heap.get?_push_of_some _ (Heap.get?_push_of_some _ e))
      · cases z2 with
        | error e => exact hz2
        | ok fl2 =>
          cases fl2 with
          | ret z3 =>
            obtain ⟨rfl, g, k, rfl, hS, hk⟩ := hz2
            repeat (any_goals (first | assumption | wp_step))
            exact done _ _ hS hk
          | _ => exact hz2.elim
    | _ => exact hz.elim

end
end NVS

set_option Elab.async false
set_option linter.all false
set_option maxRecDepth 100000
set_option maxHeartbeats 4000000
/-! Core12: a law's end. -/
namespace NV
open PySem PySem.Spec PyProof.Rows L2
theorem sqS_of {K : PySem.W.Frag} {H : Hp} {a : Addr} {ns : List Int} (hO : L2.Only H) (h : SqL K H a (ns.map V.int)) : SqS K H a ns := by
  rcases h with (h | ⟨o, h⟩) | h
  · rcases hO a with z | ⟨o, xs, z⟩
    · rw [z] at h; cases h
    · rw [z] at h; cases h
  · exact .inl ⟨o, h⟩
  · exact .inr h
theorem law_end {K : PySem.W.Frag} {mg : Str → Option Value} {H : Hp} {a : Addr} {ns : List Int} {F : List D → FRes} (hO : L2.Only H) (hS : SqL K H a (ns.map V.int)) (hl : ns.length ≤ sizeLine) (hF : F [.scr ns] = .ok (.bl true) []) :
    spF K mg [false] F [.ref a] H (fun v _ => v = .bl true) fun _ _ _ => False := by
  refine ⟨fun _ => False, [.scr ns], [], fun b h => h.elim, List.nodup_nil, ⟨.scr hl (sqS_of hO hS), trivial⟩, ?_⟩
  rw [hF]
  intro H' v _ _ r
  cases r
  rfl
theorem walk_own {l : PySem.W.OpenLaw} {n k : Nat} {q : Program} {loose : List Str} {XP : (Str → Option Value) → Heap → Prop} {YP : World → Heap → Prop} {d : DefRec} {x : Str}
    (hn : l.most = some n) (hn2 : n ≤ sizeLine) (hdf : d.params.defaults = []) (hr : Room k callerA)
    (F : ∀ (w : World) (mg : Str → Option Value) (fa : Addr) (h : Heap), YP w h → h.Ns mainGlobals mg → mg d.name = some (.ref fa) →
      ∃ (K : PySem.W.Frag) (fd : FuncData) (F : List D → FRes), K.In h ∧ (∀ (s : Shared) (u : Value), BindsTo s fd ⟨[u], []⟩ [(x, u)]) ∧
        (∀ ns : List Int, ns.length ≤ n → (∀ z ∈ ns, Builtin.Int.intBits z ≤ 1048576) → F [.scr ns] = .ok (.bl true) []) ∧
        ∀ base : Heap, K.In base → base.Ns mainGlobals mg → FnOk l.prog w K mg base (L2.CX l.prog w) k fa fd [x] (spF K mg [false] F)) :
    PySem.W.WalkO q loose XP YP l.row.toRowW d [] (fun f vs => PySem.call f vs) := by
  refine Att.attach_callB hn hdf fun w s₀ s₁ mg mb fa o pm cd doc a vs ns G Y ho hd hcd hmg hobj hints hlen hbits hg => ?_
  obtain ⟨K, fd, F, KX, hb, hP, hF⟩ := F w mg fa _ Y G.T.g hmg
  exact law_call KX G.T.g G.T.b G.T.builtins G.T.nolimit hg hobj hints (Nat.le_trans hlen hn2) hr hF hb (fun H hO hS => law_end hO hS (Nat.le_trans hlen hn2) (hP ns hlen hbits)) fun H e s' z => by
    obtain ⟨_, _, _, _, _, _, _, _, _, _, _, _, z⟩ := z
    exact z
end NV

set_option Elab.async false
set_option linter.all false
set_option maxRecDepth 100000
set_option maxHeartbeats 4000000
/-! Core13: dead paths, globals, - , len(set(..)), join, dict displays, calls without arguments, list methods. -/
namespace NV
open PySem PySem.Spec PyProof.Rows L2

/-! ### what is not reached -/
def mBad {α : Type} : Env → Res α := fun _ => .bad
def sBad : SM := fun _ => .bad
section
variable {X : Cx} {W : WX} {e a : Expr} {pos p p2 q apos cpos : Pos} {x : Str}
theorem de_dead : DE X W e mBad := ⟨fun _ _ _ => False, ⟨fun _ _ _ _ _ _ h => h.elim⟩, fun _ _ _ _ _ _ _ h => h⟩
theorem df_dead : DF X W e mBad := ⟨fun _ _ _ => False, ⟨fun _ _ _ _ _ _ h => h.elim⟩, fun _ _ _ _ _ _ _ h => h⟩
theorem dt_dead : DT X W e mBad := ⟨fun _ _ _ => False, ⟨fun _ _ _ _ _ _ h => h.elim⟩, fun _ _ _ _ _ _ _ h => h⟩
theorem ds_dead {st : Stmt} : DS X W st sBad := ⟨fun _ _ _ => False, ⟨fun _ _ _ _ _ _ h => h.elim⟩, fun _ _ _ _ _ _ _ h => h⟩
theorem dss_dead {sts : List Stmt} : DSs X W sts sBad := ⟨fun _ _ _ => False, ⟨fun _ _ _ _ _ _ h => h.elim⟩, fun _ _ _ _ _ _ _ h => h⟩

/-! ### globals -/
def Gv (K : PySem.W.Frag) (mg : Str → Option Value) (x : Str) (d : D) : Prop := ∃ (v : V) (u : Value), mg x = some u ∧ RelV v u ∧ ∀ (M : Addr → Prop) (H : Hp), Rp K M H d v
theorem de_glob {d : D} (h : Gv X.K X.mg x d) (hg : Gl X x) (hd : (x == ("__debug__" : Str)) = false := by decide) : DE X W (.Name x pos) (eC d) := by
  obtain ⟨v, u, h1, h2, h3⟩ := h
  exact de_c (pe_glob hg h1 h2 hd) h3
/-! ### - e -/
def eNeg (m : EM) : EM := fun ρ => (m ρ).bind fun d ρ1 => match d with
  | .int i => .ok (.int (-i)) ρ1
  | _ => .bad
theorem de_neg {m : EM} (h : DE X W e m) : DE X W (.UnaryOp .USub e pos) (eNeg m) := by
  obtain ⟨t, pt, s⟩ := h
  refine ⟨_, pe_un un_neg pt, fun B M H ρ σ Q rp k => s B M H ρ σ _ rp (Post.seq k fun d ρ1 M1 H1 v x1 r1 q1 k1 => ?_)⟩
  cases d with
  | int i => cases q1; exact ⟨i, rfl, k1 M1 H1 _ Ext.refl r1 (.int _)⟩
  | _ => exact k1.elim
/-! ### len(set(e)), texts -/
def strsOf : List D → Option (List Str)
  | [] => some []
  | .str x :: ds => (strsOf ds).map fun l => x :: l
  | _ => none
theorem strs_rpl {K : PySem.W.Frag} {M : Addr → Prop} {H : Hp} : ∀ {ds : List D} {xs : List Str} {vs : List V}, strsOf ds = some xs → RpL K M H ds vs → vs = xs.map V.str ∧ ds = xs.map D.str ∧ ∀ x ∈ xs, StrG x
  | [], xs, vs, e, h => by cases e; cases h; exact ⟨rfl, rfl, fun _ z => by cases z⟩
  | d :: ds, xs, vs, e, h => by
    cases d with
    | str i =>
      cases h with
      | cons a b =>
        cases e2 : strsOf ds with
        | none => simp only [strsOf, e2] at e; cases e
        | some l =>
          simp only [strsOf, e2] at e
          cases e
          obtain ⟨e3, e4, e5⟩ := strs_rpl e2 b
          cases a with
          | str g => exact ⟨by rw [e3]; rfl, by rw [e4]; rfl, fun y hy => (List.mem_cons.mp hy).elim (fun z => z ▸ g) (e5 y)⟩
    | _ => cases e
theorem rpl_strs {K : PySem.W.Frag} {M : Addr → Prop} {H : Hp} : ∀ {xs : List Str}, (∀ x ∈ xs, StrG x) → RpL K M H (xs.map D.str) (xs.map V.str)
  | [], _ => .nil
  | x :: xs, h => .cons (.str (h x List.mem_cons_self)) (rpl_strs fun y hy => h y (List.mem_cons_of_mem _ hy))
def seqStrs (d : D) : Option (List Str) := match d with
  | .tup ds => strsOf ds
  | .lst ds => strsOf ds
  | _ => none
theorem seq_strs {K : PySem.W.Frag} {M : Addr → Prop} {H : Hp} {d : D} {v : V} {xs : List Str} (h : Rq K M H d v) (e : seqStrs d = some xs) : ∃ p, v = .ref p ∧ (SqL K H p (xs.map V.str) ∨ SqT K H p (xs.map V.str)) ∧ ∀ x ∈ xs, StrG x := by
  cases d with
  | tup ds =>
    obtain ⟨a, vs, rfl, l, h1, h2⟩ := rq_tup h
    obtain ⟨e1, _, g⟩ := strs_rpl e h2
    subst e1
    exact ⟨a, rfl, .inr h1, g⟩
  | lst ds =>
    obtain ⟨a, vs, rfl, l, h1, h2⟩ := rq_lst h
    obtain ⟨e1, _, g⟩ := strs_rpl e h2
    subst e1
    exact ⟨a, rfl, .inl (SqL.of h1), g⟩
  | _ => cases e
theorem vals_str_at : ∀ {xs : List Str} {us : List Value}, Vals (xs.map V.str) us → ∀ (i : Nat) (u : Value), us[i]? = some u → ∃ x t, xs[i]? = some x ∧ u = .str x t
  | [], _, h, i, u, e => by cases h; simp at e
  | x :: xs, _, h, 0, u, e => by
    cases h with
    | cons a b =>
      obtain ⟨t, rfl⟩ := a
      simp at e
      exact ⟨x, t, rfl, e.symm⟩
  | x :: xs, _, h, i + 1, u, e => by
    cases h with
    | cons a b => exact vals_str_at b i u (by simpa using e)
def tLenSet2 (K : PySem.W.Frag) (ta : TE) : TE := fun σ H Q => ta σ H fun x H1 => ∃ (l : Addr) (xs : List Str), x = .ref l ∧ (SqL K H1 l (xs.map V.str) ∨ SqT K H1 l (xs.map V.str)) ∧ xs.length < 4000 ∧ Q (.int (NVS.dd xs).length) H1
theorem pe_lenSet2 {ta : TE} (hc : X.calm = true) (hg : Gl X "len") (hm : X.mg "len" = none) (hg2 : Gl X "set") (hm2 : X.mg "set" = none) (ha : PE X a ta)
    (na : starEach [a] X.env = (false, eval a X.env) :: starEach [] X.env := by rfl) : PE X (.Call (.Name "len" p) [.Call (.Name "set" p2) [a] [] q] [] pos) (tLenSet2 X.K ta) := by
  refine ⟨fun pins s σ H Q I h => ?_⟩
  refine Call_ (ld_blt I hg hm PySem.boot_len (PyProof.Rows.callWith_builtin1 (PyProof.Rows.args_cons ?_ rfl) rfl rfl))
  refine Call_ (ld_blt I hg2 hm2 PyProof.Rows.boot_set (PyProof.Rows.callWith_type1 (PyProof.Rows.args_cons (thn (ha.run pins s σ H _ I h) fun v s1 ⟨x, H1, I1, r1, q1⟩ => PyProof.Rows.args_nil ?_) na) na rfl))
  obtain ⟨l, xs, rfl, hq, few, q1⟩ := q1
  cases r1
  have fin : ∀ (g : Heap) (k : Nat), g.SetOf (PySem.strKind X.prog X.w) s1.heap.objs.size (fun y => decide (y ∈ NVS.dd xs)) (NVS.dd xs).length → (∀ b ob, b < s1.heap.objs.size → s1.heap.get? b = some ob → g.get? b = some ob) →
      wpAny (model X.prog X.w) X.A (call (.builtin "len") [.ref s1.heap.objs.size]) (EP X pins σ Q) X.xe { s1 with heap := g, toks := k } := fun g k hS hk => by
    obtain ⟨o, es, ep, t, ho, hex, hd, _, _, _, hf, hn⟩ := hS
    have I2 : Inv X pins σ H1 { s1 with heap := g, toks := k } := I1.kept fun b o e => hk b o (Heap.lt_size e) e
    have le := NVS.dd_len xs
    exact call_len_set ho hex hd hf (by rw [hn]; omega) ⟨.int (NVS.dd xs).length, H1, I2.tok _, ⟨_, by rw [hn]⟩, q1⟩
  rcases hq with hq | hq
  · obtain ⟨its, r, pl, hz⟩ := I1.list hq
    have hl : its.toArray.size = xs.length := by rw [List.size_toArray, ← r.length, List.length_map]
    exact NVS.set_of_list (I1.ok.hd hc) pl.isList hl (fun i u e => vals_str_at r i u (by simpa using e)) (by unfold scanBound; omega) fun g k hS hk => PyProof.Rows.args_nil (fin g k hS hk)
  · obtain ⟨its, r, pl, hz⟩ := I1.tuple hq
    have hl : its.toArray.size = xs.length := by rw [List.size_toArray, ← r.length, List.length_map]
    exact NVS.set_of_tuple (I1.ok.hd hc) pl hl (fun i u e => vals_str_at r i u (by simpa using e)) (by unfold scanBound; omega) fun g k hS hk => PyProof.Rows.args_nil (fin g k hS hk)
def lenSetD (d : D) : Option D := (seqStrs d).bind fun xs => if xs.length < 4000 then some (.int (NVS.dd xs).length) else none
def eLenSet (m : EM) : EM := fun ρ => (m ρ).bind fun d ρ1 => ofO (lenSetD d) ρ1
theorem de_lenSet {m : EM} (c : Cd X) (hg : Gl X "len") (hm : X.mg "len" = none) (hg2 : Gl X "set") (hm2 : X.mg "set" = none) (h : DE X W a m) (na : starEach [a] X.env = (false, eval a X.env) :: starEach [] X.env := by rfl) : DE X W (.Call (.Name "len" p) [.Call (.Name "set" p2) [a] [] q] [] pos) (eLenSet m) := by
  obtain ⟨t, pt, s⟩ := h
  refine ⟨_, pe_lenSet2 c.calm hg hm hg2 hm2 pt na, fun B M H ρ σ Q rp k => s B M H ρ σ _ rp (Post.seq k fun d ρ1 M1 H1 v x1 r1 q1 k1 => ?_)⟩
  cases e : seqStrs d with
  | none => simp only [lenSetD, e, Option.bind] at k1; exact k1.elim
  | some xs =>
    simp only [lenSetD, e, Option.bind] at k1
    split at k1
    · rename_i hl
      obtain ⟨l, rfl, h1, _⟩ := seq_strs q1.rq e
      exact ⟨l, xs, rfl, h1, hl, k1 M1 H1 _ Ext.refl r1 (.int _)⟩
    · exact k1.elim
/-! ### 'x'.join(e), x.upper() -/
def strGb (x : Str) : Bool := decide (x.length ≤ sizeLine) && PySem.PyData.strOk x
theorem strGb_ok {x : Str} (h : strGb x = true) : StrG x := by
  unfold strGb at h
  rw [Bool.and_eq_true] at h
  exact ⟨of_decide_eq_true h.1, by simpa using h.2⟩
def joinD (d e : D) : Option D := match d, seqStrs e with
  | .str x, some ys => if (ys.map (·.length)).sum + ys.length * x.length ≤ 16777216 ∧ strGb (Txt.join x ys) = true then some (.str (Txt.join x ys)) else none
  | _, _ => none
def isStr : D → Bool
  | .str _ => true
  | _ => false
def eJoin (mo me : EM) : EM := fun ρ => (mo ρ).bind fun d ρ1 => if isStr d then (me ρ1).bind fun e ρ2 => ofO (joinD d e) ρ2 else .bad
theorem de_join {o : Expr} {mo me : EM} (ho : DE X W o mo) (he : DE X W e me) (hs : starEach [e] X.env = [(false, eval e X.env)] := by rfl) (hbase : attributeBase o "join" X.env (eval o X.env) = eval o X.env := by rfl) (hline : (apos.endLine == pos.line) = true := by rfl) :
    DE X W (.Call (.Attribute o "join" apos) [e] [] pos) (eJoin mo me) := by
  obtain ⟨t, pt, s⟩ := ho
  obtain ⟨u, pu, s'⟩ := he
  refine ⟨_, pe_join pt pu hs hbase hline, fun B M H ρ σ Q rp k => s B M H ρ σ _ rp (Post.seq k fun d ρ1 M1 H1 v x1 r1 q1 k1 => ?_)⟩
  cases d with
  | str z =>
    cases q1
    refine ⟨⟨z, rfl⟩, s' B M1 H1 ρ1 σ _ r1 (Post.seq k1 fun d2 ρ2 M2 H2 v2 x2 r2 q2 k2 => ?_)⟩
    cases e2 : seqStrs d2 with
    | none => simp only [joinD, e2] at k2; exact k2.elim
    | some ys =>
      simp only [joinD, e2] at k2
      split at k2
      · rename_i hc
        obtain ⟨l, rfl, h1, _⟩ := seq_strs q2.rq e2
        exact ⟨z, l, ys, rfl, rfl, h1, hc.1, k2 M2 H2 _ Ext.refl r2 (.str (strGb_ok hc.2))⟩
      · exact k2.elim
  | _ => exact k1.elim
def eUpper (m : EM) : EM := fun ρ => (m ρ).bind fun d ρ1 => match d with
  | .str x => if x.length ≤ 5592405 ∧ strGb (Txt.upper x) = true then .ok (.str (Txt.upper x)) ρ1 else .bad
  | _ => .bad
theorem de_upper {o : Expr} {mo : EM} (ho : DE X W o mo) (hbase : attributeBase o "upper" X.env (eval o X.env) = eval o X.env := by rfl) (hline : (apos.endLine == pos.line) = true := by rfl) : DE X W (.Call (.Attribute o "upper" apos) [] [] pos) (eUpper mo) := by
  obtain ⟨t, pt, s⟩ := ho
  refine ⟨_, pe_upper pt hbase hline, fun B M H ρ σ Q rp k => s B M H ρ σ _ rp (Post.seq k fun d ρ1 M1 H1 v x1 r1 q1 k1 => ?_)⟩
  cases d with
  | str z =>
    cases q1
    simp only at k1
    split at k1
    · rename_i hc
      exact ⟨⟨z, rfl⟩, z, rfl, rfl, hc.1, k1 M1 H1 _ Ext.refl r1 (.str (strGb_ok hc.2))⟩
    · exact k1.elim
  | _ => exact k1.elim
end
end NV

set_option Elab.async false
set_option linter.all false
set_option maxRecDepth 100000
set_option maxHeartbeats 4000000
/-! Core14: dict displays, calls without arguments, [::-1], list methods, str(i), tuple(text). -/
namespace NV
open PySem PySem.Spec PyProof.Rows L2

/-! ### {k: v, ..} -/
def DPr (X : Cx) (W : WX) (pos : Pos) (ks : List (Option Expr)) (vs : List Expr) (m : Env → Res (List (D × D))) : Prop := ∃ trs, PPs X pos ks vs trs ∧
  ∀ (B : Base) (M : Addr → Prop) (H : Hp) (ρ : Env) (σ : St) (Q : List (V × V) → Hp → Prop), Rep X.K B M H ρ σ → Post X B W (fun M' H' _ ds ps => Paired (fun (d : D × D) (p : V × V) => Rp X.K M' H' d.1 p.1 ∧ Rp X.K M' H' d.2 p.2) ds ps) M H σ (m ρ) Q → tPairs trs σ H Q
def pNil : Env → Res (List (D × D)) := fun ρ => .ok [] ρ
def pCons (mk mv : EM) (mr : Env → Res (List (D × D))) : Env → Res (List (D × D)) := fun ρ => (mk ρ).bind fun k ρ1 => (mv ρ1).bind fun v ρ2 => (mr ρ2).bind fun r ρ3 => .ok ((k, v) :: r) ρ3
def keysD : List (D × D) → Option (List (Key × D))
  | [] => some []
  | (k, v) :: r => match keyD k, keysD r with
    | some k', some r' => if r'.any (fun kv => decide (kv.1 = k')) = false then some ((k', v) :: r') else none
    | _, _ => none
def eDct (m : Env → Res (List (D × D))) : EM := fun ρ => (m ρ).bind fun ps ρ1 => if ps.length ≤ 15 then (ofO (keysD ps) ρ1).bind fun kvs _ => .ok (.dct kvs) ρ1 else .bad
theorem merge_nodup : ∀ (more kvs : List (Key × V)), (∀ kv ∈ more, kvs.any (fun z => decide (z.1 = kv.1)) = false) → more.Pairwise (fun a b => a.1 ≠ b.1) → mergeK kvs more = kvs ++ more
  | [], kvs, _, _ => by simp [mergeK]
  | (k, v) :: more, kvs, h1, h2 => by
    have e : putK kvs k v = kvs ++ [(k, v)] := by
      unfold putK
      rw [if_neg (by rw [h1 (k, v) List.mem_cons_self]; simp)]
    have p := List.pairwise_cons.mp h2
    show mergeK (putK kvs k v) more = _
    rw [e, merge_nodup more (kvs ++ [(k, v)]) (fun kv hkv => ?_) p.2]
    · simp
    · rw [List.any_append, h1 kv (List.mem_cons_of_mem _ hkv)]
      simp only [List.any_cons, List.any_nil, Bool.or_false, Bool.false_or]
      exact decide_eq_false (p.1 kv hkv)
section
variable {X : Cx} {W : WX} {pos p apos cpos : Pos}
theorem dpr_nil : DPr X W pos [] [] pNil := ⟨_, pps_nil, fun B M H ρ σ Q rp k => k M H [] Ext.refl rp .nil⟩
theorem dpr_cons {k v : Expr} {ks : List (Option Expr)} {vs : List Expr} {mk mv : EM} {mr : Env → Res (List (D × D))} (hk : DE X W k mk) (hv : DE X W v mv) (hr : DPr X W pos ks vs mr) : DPr X W pos (some k :: ks) (v :: vs) (pCons mk mv mr) := by
  obtain ⟨tk, pk, sk⟩ := hk
  obtain ⟨tv, pv, sv⟩ := hv
  obtain ⟨tr, pr, sr⟩ := hr
  refine ⟨_, pps_cons pk pv pr, fun B M H ρ σ Q rp kk => sk B M H ρ σ _ rp (Post.seq kk fun d ρ1 M1 H1 x x1 r1 q1 k1 => sv B M1 H1 ρ1 σ _ r1 (Post.seq k1 fun e ρ2 M2 H2 y x2 r2 q2 k2 => sr B M2 H2 ρ2 σ _ r2 (Post.seq k2 fun ds ρ3 M3 H3 ps x3 r3 q3 k3 => ?_)))⟩
  exact k3 M3 H3 _ Ext.refl r3 (.cons ⟨Rp.ext (x2.trans x3) q1, Rp.ext x3 q2⟩ q3)
theorem key_kV {K : PySem.W.Frag} {M : Addr → Prop} {H : Hp} {d : D} {v : V} {k : Key} (h : Rp K M H d v) (e : keyD d = some k) : v = kV k := by
  cases d with
  | int i => cases h; cases e; rfl
  | str x => cases h; cases e; rfl
  | _ => cases e
theorem keys_rpk {K : PySem.W.Frag} {M : Addr → Prop} {H : Hp} : ∀ {ds : List (D × D)} {ps : List (V × V)} {kvs : List (Key × D)}, Paired (fun (d : D × D) (p : V × V) => Rp K M H d.1 p.1 ∧ Rp K M H d.2 p.2) ds ps → keysD ds = some kvs →
    ∃ ws : List (Key × V), ps = ws.map (fun kv => (kV kv.1, kv.2)) ∧ RpK K M H kvs ws ∧ ws.Pairwise (fun a b => a.1 ≠ b.1) ∧ ws.map (·.1) = kvs.map (·.1)
  | [], _, kvs, h, e => by cases h; cases e; exact ⟨[], rfl, .nil, .nil, rfl⟩
  | (k, v) :: ds, _, kvs, h, e => by
    cases h with
    | @cons _ b _ bs h1 h2 =>
      obtain ⟨x, y⟩ := b
      unfold keysD at e
      cases e1 : keyD k with
      | none => simp only [e1] at e; cases e
      | some k' =>
        cases e2 : keysD ds with
        | none => simp only [e1, e2] at e; cases e
        | some r' =>
          simp only [e1, e2] at e
          split at e
          · rename_i hn
            cases e
            obtain ⟨ws, q1, q2, q3, q4⟩ := keys_rpk h2 e2
            have ex : x = kV k' := key_kV h1.1 e1
            refine ⟨(k', y) :: ws, by rw [q1, ex]; rfl, .cons h1.2 q2, List.pairwise_cons.mpr ⟨fun kv hkv z => ?_, q3⟩, by simp [q4]⟩
            have hm : kv.1 ∈ r'.map (·.1) := by rw [← q4]; exact List.mem_map_of_mem hkv
            obtain ⟨z2, hz2, ez⟩ := List.mem_map.mp hm
            have := List.any_eq_false.mp hn z2 hz2
            simp at this
            exact this (by rw [ez]; exact z.symm)
          · cases e
theorem df_disp {ks : List (Option Expr)} {vs : List Expr} {m : Env → Res (List (D × D))} (h : DPr X W pos ks vs m) (hall : ks.all (·.isSome) = true) (hl : ks.length = vs.length) (h0 : ks ≠ []) (h15 : ks.length ≤ 15) : DF X W (.Dict ks vs pos) (eDct m) := by
  obtain ⟨trs, pp, s⟩ := h
  refine ⟨_, pe_disp pp hall hl h0 h15, fun B M H ρ σ Q rp k => ?_⟩
  intro a ha
  have hb := rp.base_new (X := X) ha
  have np := rp.pr_new (X := X) ha
  have an := rp.anon_new (X := X) ha
  have r0 : Rep X.K (B.with a (.dK [])) (fun b => M b ∨ b = a) (upd H a (.dK [])) ρ σ := (rp.allocO ha).prot (.inr rfl) upd_same an
  refine s (B.with a (.dK [])) _ _ ρ σ _ r0 ?_
  unfold eDct at k
  cases em : m ρ with
  | bad => rw [em] at k; exact k
  | exc x ρ1 => rw [em] at k; exact fun M2 H2 c dx x2 r2 q2 => k M2 H2 c dx ((Ext.newO ha).trans x2) r2.unprot.1 q2
  | ok ps ρ1 =>
    rw [em] at k
    simp only [Res.bind] at k
    intro M2 H2 pv x2 r2 q2
    obtain ⟨u1, u2, u3, u4⟩ := r2.unprot
    by_cases hc : ps.length ≤ 15
    · rw [if_pos hc] at k
      cases ek : keysD ps with
      | none => rw [ek] at k; exact k.elim
      | some kvs =>
        rw [ek] at k
        simp only [ofO, Res.bind] at k
        obtain ⟨ws, e1, e2, e3, e4⟩ := keys_rpk q2 ek
        have hlen : ws.length ≤ 15 := by
          have h1 : ps.length = pv.length := by
            have : ∀ {as : List (D × D)} {bs : List (V × V)}, Paired (fun (d : D × D) (p : V × V) => Rp X.K M2 H2 d.1 p.1 ∧ Rp X.K M2 H2 d.2 p.2) as bs → as.length = bs.length := by
              intro as bs h
              induction h with
              | nil => rfl
              | cons _ _ ih => simp [ih]
            exact this q2
          rw [e1, List.length_map] at h1
          omega
        refine ⟨u3, ws, e1, hlen, ?_⟩
        rw [merge_nodup ws [] (fun _ _ => rfl) e3, List.nil_append]
        have xw : Ext M2 H2 M2 (upd H2 a (.dK ws)) := Ext.write u2 u3 fun z => z
        have hk : kvs.length = ws.length := by rw [← List.length_map (f := (·.1)), ← e4, List.length_map]
        refine k M2 _ _ ((Ext.newO ha).trans (x2.trans xw)) (u1.writeAnon u2 u3 u4 hb np fun z => z) ⟨a, rfl, ⟨u2, by rw [hk, sizeLine_eq]; omega, ws, upd_same, RpK.ext xw e2⟩, hb, u4, np⟩
    · rw [if_neg hc] at k; exact k.elim

/-! ### f() -/
def eCall0 (fr : Bool) (F : List D → FRes) : EM := fun ρ => match F [] with
  | .ok r [] => if fr = false then .ok r ρ else .bad
  | .okF r [] => if fr = true then .ok r ρ else .bad
  | .exc x [] => .exc x ρ
  | _ => .bad
def tCall0 (sp : Sp) (E : St → XK) : TE := fun σ H Q => sp [] H Q (E σ)
theorem pe_callS0 {CX : CXT} {k : Nat} {f : Addr} {fd : FuncData} {ps : List Str} {sp : Sp} {E : St → XK} {x : Str} (F : FnOk X.prog X.w X.K X.mg X.base CX k f fd ps sp) (hr : Room k X.A) (hg : Gl X x) (hm : X.mg x = some (.ref f)) (hk : PySem.W.keepIn X.K (.ref f) = true) (hb : Binds X.K fd ps []) (hx : ∀ σ, PassesAt CX X σ (E σ))
    (hdb : (x == ("__debug__" : Str)) = false := by decide) : PE X (.Call (.Name x p) [] [] pos) (tCall0 sp E) := by
  refine ⟨fun pins s σ H Q I h => ?_⟩
  refine wpAny_Call_Name_kw (ld_glob I hg hm ?_ hdb)
  exact PySem.W.callWith_K0 I.kIn hk (run_fnS (us := []) F hr hb (hx σ) I .nil h)
theorem call0_post {x : Str} {k : Nat} {F : List D → FRes} {fr : Bool} {R : Base → St → (Addr → Prop) → Hp → Env → D → V → Prop} (hR : R = fun B σ => if fr then RelF X.K B σ else RelE X.K) :
    Sat X W R (tCall0 (spF X.K X.mg [] F) (WE W)) (eCall0 fr F) := by
  subst hR
  intro B M H ρ σ Q rp k
  unfold eCall0 at k
  refine ⟨M, [], [], fun b h => rp.trk b h, List.nodup_nil, trivial, ?_⟩
  cases e : F [] with
  | ok r os =>
    cases os with
    | cons _ _ => rw [e] at k; exact k.elim
    | nil =>
      rw [e] at k
      simp only at k
      cases fr with
      | false =>
        rw [if_pos rfl] at k
        intro H' v hk hp hr
        obtain ⟨r2, x2⟩ := rp.called (is := []) .nil hk (fun _ h => h) (fun _ h => .inl h) (fun b h => hk.trk hp (rp.trk b h)) hp rfl
        exact k M H' v x2 r2 hr
      | true => exact k.elim
  | okF r os =>
    cases os with
    | cons _ _ => rw [e] at k; exact k.elim
    | nil =>
      rw [e] at k
      simp only at k
      cases fr with
      | true =>
        intro H' a hk hn hp hr
        obtain ⟨o, q, _⟩ := hr.there
        obtain ⟨r2, x2⟩ := rp.called (M' := fun b => M b ∨ b = a) (is := []) .nil hk (fun _ h => .inl h) (fun b h => h.imp id fun e => by rw [e]; exact hn) (fun b h => h.elim (fun h => hk.trk hp (rp.trk b h)) fun e => by rw [e, q]; intro z; cases z) hp rfl
        refine k _ H' _ x2 r2 ⟨a, rfl, hr, rp.base_new (X := X) hn, rp.anon_new (X := X) hn, rp.pr_new (X := X) hn⟩
      | false => exact k.elim
  | exc x os =>
    cases os with
    | cons _ _ => rw [e] at k; exact k.elim
    | nil =>
      rw [e] at k
      intro H' c dx hk hp hr
      obtain ⟨r2, x2⟩ := rp.called (is := []) .nil hk (fun _ h => h) (fun _ h => .inl h) (fun b h => hk.trk hp (rp.trk b h)) hp rfl
      exact k M H' c dx x2 r2 hr
  | bad => rw [e] at k; exact k.elim
theorem de_callH0 {x : Str} {k n : Nat} {F : List D → FRes} (h : Has X.prog X.w X.K X.mg X.base k x [] F) (hr : Room n X.A) (hg : Gl X x) (tk : Takes X W) (hk : k ≤ n := by decide) (hdb : (x == ("__debug__" : Str)) = false := by decide) : DE X W (.Call (.Name x p) [] [] pos) (eCall0 false F) := by
  obtain ⟨f, fd, ps, h1, h2, h3, h4⟩ := h
  exact ⟨_, pe_callS0 (h1.mono hk) hr hg h2 h3 h4 (fun σ => passAt tk σ) hdb, call0_post (k := k) (x := x) (fr := false) rfl⟩
theorem df_callH0 {x : Str} {k n : Nat} {F : List D → FRes} (h : Has X.prog X.w X.K X.mg X.base k x [] F) (hr : Room n X.A) (hg : Gl X x) (tk : Takes X W) (hk : k ≤ n := by decide) (hdb : (x == ("__debug__" : Str)) = false := by decide) : DF X W (.Call (.Name x p) [] [] pos) (eCall0 true F) := by
  obtain ⟨f, fd, ps, h1, h2, h3, h4⟩ := h
  exact ⟨_, pe_callS0 (h1.mono hk) hr hg h2 h3 h4 (fun σ => passAt tk σ) hdb, call0_post (k := k) (x := x) (fr := true) rfl⟩
/-! ### str(i), tuple('..') -/
def strI : List D → Option D
  | [.int i] => if i.natAbs.log2 < 1920 ∧ strGb (toString i : Str) = true then some (.str (toString i : Str)) else none
  | _ => none
theorem f_strI : CallE X strI (fun xs H Q => ∃ i, xs = [.int i] ∧ i.natAbs.log2 < 1920 ∧ Q (.str (toString i)) H) := by
  intro B W M H ρ σ ds z xs Q rp hp hf h
  unfold strI at hf
  split at hf
  · split at hf
    · rename_i hc
      cases hf
      cases hp with | cons a b => cases b; obtain rfl := rq_int a; exact ⟨_, rfl, hc.1, post_v h rp (.str (strGb_ok hc.2))⟩
    · cases hf
  · cases hf
def signs (x : Str) : List D := x.cps.toList.map fun c => .str ⟨#[c]⟩
end
end NV

set_option Elab.async false
set_option linter.all false
set_option maxRecDepth 100000
set_option maxHeartbeats 4000000
/-! Core15: e[::-1] of a list, a tuple, a text. -/
namespace NVS
open PySem PySem.Spec PyProof.Rows HT
section
variable {pr : Program} {wo : World} {A : Around} {X0 : Value → Shared → Prop} {st : Shared}
theorem adjust_rev (n : Nat) : Builtin.Slice.sliceAdjust none none (-1) (n : Int) = ((n : Int) - 1, -1) := rfl
theorem places_rev (n : Nat) : Builtin.Slice.slicePlaces ((n : Int) - 1) (-1) (-1) = n := by
  unfold Builtin.Slice.slicePlaces
  have h1 : ¬ ((-1 : Int) > 0) := by decide
  rw [if_neg h1]
  by_cases h : (n : Int) - 1 > -1
  · rw [if_pos h]
    have e : ((n : Int) - 1 - -1 - 1) / (- -1) + 1 = (n : Int) := by
      rw [show (- -1 : Int) = 1 by decide, Int.ediv_one]
      omega
    rw [e]
    exact Int.toNat_natCast n
  · rw [if_neg h]
    omega
theorem applied_rev {sl : Addr} {n : Nat} {u : Tok} {R : Int × Int × Nat → Shared → Prop} (hs : st.heap.IsSliceOf sl .none .none (.int (-1) u)) (h : R ((n : Int) - 1, -1, n) st) : wpAny (model pr wo) A (Builtin.Slice.sliceApplied (.ref sl) (pure (n : Int))) R X0 st := by
  obtain ⟨ob, hob, cob, dob⟩ := id hs
  unfold Builtin.Slice.sliceApplied Builtin.Slice.sliceFields
  refine wpAny_bind (wpAny_bind (wpAny_field hob dob (x := .none) rfl (wpAny_bind (wpAny_field hob dob (x := .none) rfl (wpAny_bind (wpAny_field hob dob (x := .int (-1) u) rfl (wpAny_pure ?_)))))))
  refine wpAny_bind (slicePart_int ?_)
  show wpAny _ _ (if ((-1 : Int) == 0) = true then _ else _) _ _ st
  rw [if_neg (by decide)]
  refine wpAny_bind (slicePart_none (wpAny_bind (slicePart_none (wpAny_bind (wpAny_pure ?_)))))
  show wpAny _ _ (match Builtin.Slice.sliceAdjust none none (-1) (n : Int) with | (a, b) => pure (a, (-1 : Int), Builtin.Slice.slicePlaces a b (-1))) _ _ st
  rw [adjust_rev]
  show wpAny _ _ (pure ((n : Int) - 1, (-1 : Int), Builtin.Slice.slicePlaces ((n : Int) - 1) (-1) (-1))) _ _ st
  rw [places_rev]
  exact wpAny_pure h
theorem pick_rev (xs : Array Value) : ((List.range xs.size).filterMap fun (k : Nat) => xs[((xs.size : Int) - 1 + (k : Int) * -1).toNat]?).toArray = xs.toList.reverse.toArray := by
  have e : (List.range xs.size).filterMap (fun (k : Nat) => xs[((xs.size : Int) - 1 + (k : Int) * -1).toNat]?) = ((List.range xs.size).map fun k => xs.size - 1 - k).filterMap (xs[·]?) := by
    have e1 : ∀ (f : Nat → Option Value) (l : List Nat), l.filterMap f = (l.map f).filterMap id := fun f l => by rw [List.filterMap_map]; rfl
    rw [List.filterMap_map, e1, e1]
    congr 1
    refine List.map_congr_left fun k hk => ?_
    have := List.mem_range.mp hk
    show xs[((xs.size : Int) - 1 + (k : Int) * -1).toNat]? = xs[xs.size - 1 - k]?
    rw [show ((xs.size : Int) - 1 + (k : Int) * -1).toNat = xs.size - 1 - k by omega]
  rw [e, PySem.W.krv_range, List.filterMap_reverse, PySem.W.krv_all]
theorem tuple_rev {t sl : Addr} {arr : Array Value} {u : Tok} {R : Value → Shared → Prop} (ht : IsTup st.heap t arr) (hs : st.heap.IsSliceOf sl .none .none (.int (-1) u))
    (h : R (.ref st.heap.objs.size) { st with heap := st.heap.push { cls := .type "tuple", data := .seq arr.toList.reverse.toArray } }) (sz : arr.size ≤ sizeLine) : wpAny (model pr wo) A (getItem (.ref t) (.ref sl)) R X0 st := by
  have fits : sizeOk (.seq arr.toList.reverse.toArray) := by
    show arr.toList.reverse.toArray.size ≤ sizeLine
    rw [List.size_toArray, List.length_reverse, Array.length_toList]
    exact sz
  obtain ⟨ob, hob, cob, dob⟩ := id hs
  have ty : st.TypeIs (.ref sl) "slice" := ⟨ob, hob, cob⟩
  unfold getItem
  try with_reducible refine wpAny_holding ?_
  first | refine wpAny_bind (wpAny_pure ?_) | skip
  refine wpAny_bind (wpAny_sequenceKey ht.typeIs (by decide) ?_)
  refine wpAny_bind (wpAny_callSpecial?_slot (name := Str.ofString "__getitem__") ht.typeIs slot_tuple_getitem (wpAny_call_entry slot_tuple_getitem ht.typeIs entry_tuple_getitem ?_ (args_tuple_getitem _ _)))
  show wpAny _ _ (Builtin.Tuple.tupleItemsOf (.ref t) >>= _) _ _ st
  refine wpAny_bind (tupleItemsOf_ ht ?_)
  refine wpAny_bind (wpAny_typeOf ty ?_)
  rw [if_pos (by decide)]
  refine wpAny_bind (applied_rev hs ?_)
  show wpAny _ _ (if (((arr.size : Int) - 1) == 0 && (-1 : Int) == 1 && arr.size == arr.size) = true then _ else _) _ _ st
  rw [if_neg (by simp), pick_rev]
  first
    | exact wpAny_bind (m := Builtin.Tuple.tupleExact _) (wpAny_newObj_type (wpAny_pure ⟨_, rfl, wpAny_pure h⟩) fits)
    | exact wpAny_bind (m := Builtin.Tuple.tupleExact _) (wpAny_newObj_type (wpAny_bind (wpAny_pure (wpAny_pure ⟨_, rfl, wpAny_pure h⟩))) fits)
    | exact wpAny_bind (wpAny_bind (m := Builtin.Tuple.tupleExact _) (wpAny_newObj_type (wpAny_pure (wpAny_pure ⟨_, rfl, wpAny_pure h⟩)) fits))
    | exact wpAny_bind (wpAny_bind (m := Builtin.Tuple.tupleExact _) (wpAny_newObj_type (wpAny_pure ⟨_, rfl, wpAny_pure h⟩) fits))
end
end NVS

namespace NV
open PySem PySem.Spec PyProof.Rows L2
def revS (x : Str) : Str := ⟨x.cps.toList.reverse.toArray⟩
theorem revS_length (x : Str) : (revS x).length = x.length := by
  show x.cps.toList.reverse.toArray.size = x.cps.size
  rw [List.size_toArray, List.length_reverse, Array.length_toList]
theorem revS_ok {x : Str} (h : StrG x) : StrG (revS x) := by
  refine ⟨by rw [revS_length]; exact h.1, ?_⟩
  have h2 := h.2
  unfold PySem.PyData.strOk at h2 ⊢
  rw [Array.all_eq_true_iff_forall_mem] at h2 ⊢
  intro c hc
  exact h2 c (by simpa [revS] using hc)
theorem picked_rev (x : Str) (t : Tok) : sliceMade x t none none (some (-1, t)) = Made.str (revS x) := by
  unfold sliceMade
  rw [if_neg (by simp)]
  have e : slicePicked x none none (some (-1, t)) = (List.range x.length).map fun k => x.length - 1 - k := by
    unfold slicePicked
    show Builtin.Str.strSliceIndices none none (-1) x.length = _
    unfold Builtin.Str.strSliceIndices
    exact PySem.W.krv_sliceRange x.length
  have e2 : x.length = x.cps.size := rfl
  rw [e, PySem.W.krv_range, List.filterMap_reverse, e2, PySem.W.krv_all]
  rfl
def revD (d : D) : Option D := match d with
  | .lst ds => some (.lst ds.reverse)
  | .tup ds => some (.tup ds.reverse)
  | .str x => some (.str (revS x))
  | _ => none
section
variable {X : Cx} {W : WX}
def tRev3 (K : PySem.W.Frag) (te : TE) : TE := fun σ H Q => te σ H fun x H1 => (∃ a xs, x = .ref a ∧ SqL K H1 a xs ∧ ∀ p, H1 p = none → Q (.ref p) (upd H1 p (.lst xs.reverse))) ∨ (∃ a xs, x = .ref a ∧ SqT K H1 a xs ∧ ∀ p, H1 p = none → Q (.ref p) (upd H1 p (.tup xs.reverse))) ∨
  ∃ z, x = .str z ∧ z.length ≤ sizeLine ∧ Q (.str (revS z)) H1
theorem pe_rev3 {e : Expr} {te : TE} {k : Nat} {p1 p2 p3 pos : Pos} (he : PE X e te) : PE X (.Subscript e (.Slice none none (some (.UnaryOp .USub (.Constant (.int 1) k p1) p2)) p3) pos) (tRev3 X.K te) := by
  refine ⟨fun pins s σ H Q I h => ?_⟩
  refine Subscript_ (thn (he.run pins s σ H _ I h) fun v s1 ⟨x, H1, I1, r1, q1⟩ => ?_)
  have step : PO X (some (.UnaryOp .USub (.Constant (.int 1) k p1) p2)) (tPart (tUn (rU fun i => .int (-i)) (tC (.int 1)))) := po_some (pe_un un_neg pe_int)
  refine wpAny_Slice (thn (po_none.run pins s1 σ H1 (fun o H2 => o = none ∧ H2 = H1) I1 ⟨rfl, rfl⟩) fun vl s2 ⟨l, H2, I2, pl, el, e2⟩ => ?_)
  subst el e2
  refine thn (po_none.run pins s2 σ H2 (fun o H3 => o = none ∧ H3 = H2) I2 ⟨rfl, rfl⟩) fun vu s3 ⟨u, H3, I3, pu, eu, e3⟩ => ?_
  subst eu e3
  refine thn (step.run pins s3 σ H3 (fun o H4 => o = some (-1) ∧ H4 = H3) I3 ⟨1, rfl, -1, rfl, rfl, rfl⟩) fun vs s4 ⟨o, H4, I4, ps, eo, e4⟩ => ?_
  subst eo e4
  cases pl
  cases pu
  have ⟨tk, evs⟩ : ∃ t, vs = .int (-1) t := by cases ps with | int _ t => exact ⟨t, rfl⟩
  subst evs
  have I5 : Inv X pins σ H4 { s4 with heap := s4.heap.push { cls := .type "slice", data := .fields #[.none, .none, .int (-1) tk] } } := I4.kept (t' := s4.toks) fun b ob q => Heap.get?_push_of_some _ q
  show wpAny (model X.prog X.w) X.A (subscriptTail e (.Slice none none (some (.UnaryOp .USub (.Constant (.int 1) k p1) p2)) p3) v (.ref s4.heap.objs.size)) (EP X pins σ Q) X.xe { s4 with heap := s4.heap.push { cls := .type "slice", data := .fields #[.none, .none, .int (-1) tk] } }
  rcases q1 with ⟨a, xs, ex, hx, q⟩ | ⟨a, xs, ex, hx, q⟩ | ⟨z, ex, hz, q⟩
  · subst ex
    cases r1
    obtain ⟨its, r, ht, hz⟩ := I5.list hx
    have hlen := r.length
    refine tail_any (ops := [.ref a, .ref s4.heap.objs.size]) ht.isList.typeIs (PySem.slot_list_getitem.lookup) ?_ (by with_unfolding_all rfl)
    refine wpAny_getItem_list_slice ht.isList (Heap.IsSliceOf.new _ .none .none (.int (-1) tk)) .none .none (.int _ _) (by decide) ?_ (by rw [List.size_toArray]; omega)
    rw [PySem.W.krv_pick]
    refine ⟨.ref _, _, I5.laid (t' := s4.toks) (o := .lst xs.reverse) (fun b ob q => Heap.get?_push_of_some _ q) (Nat.le_refl _) ?_, rfl, q _ (I5.hok.fresh (Nat.le_refl _))⟩
    exact ⟨by rw [List.length_reverse]; exact hz, _, 0, r.reverse, Heap.get?_push_size _ rfl⟩
  · subst ex
    cases r1
    obtain ⟨its, r, ht, hz⟩ := I5.tuple hx
    have hlen := r.length
    refine tail_any (ops := [.ref a, .ref s4.heap.objs.size]) ht.typeIs (PyProof.Rows.slot_tuple_getitem.lookup) ?_ (by with_unfolding_all rfl)
    refine NVS.tuple_rev ht (Heap.IsSliceOf.new _ .none .none (.int (-1) tk)) ?_ (by rw [List.size_toArray]; omega)
    refine ⟨.ref _, _, I5.laid (t' := s4.toks) (o := .tup xs.reverse) (fun b ob q => Heap.get?_push_of_some _ q) (Nat.le_refl _) ?_, rfl, q _ (I5.hok.fresh (Nat.le_refl _))⟩
    exact ⟨by rw [List.length_reverse]; exact hz, _, r.reverse, IsTup.new _ _⟩
  · subst ex
    obtain ⟨t, rfl⟩ := r1
    refine tail_any (ops := [.str z t, .ref s4.heap.objs.size]) (typeIs_str _ _ _) (F.slot_str_getitem.lookup) ?_ (by with_unfolding_all rfl)
    refine wpAny_getItem_str_slice (l := none) (u := none) (st := some (-1, tk)) (Heap.IsSliceOf.new _ .none .none (.int (-1) tk)) rfl ?_
    have e : sliceMade z t none none (some (-1, tk)) = Made.str (revS z) := picked_rev z t
    rw [e]
    exact ⟨by rw [revS_length]; exact hz, .str _, H4, I5.tok _, ⟨_, rfl⟩, q⟩
def eRev (m : RM) : EM := fun ρ => (m ρ).bind fun x ρ1 => (ofO (x.get ρ1) ρ1).bind fun d _ => ofO (revD d) ρ1
theorem de_rev {e : Expr} {m : RM} {k : Nat} {p1 p2 p3 pos : Pos} (h : DR X W e m) : DE X W (.Subscript e (.Slice none none (some (.UnaryOp .USub (.Constant (.int 1) k p1) p2)) p3) pos) (eRev m) := by
  obtain ⟨t, pt, s⟩ := h
  refine ⟨_, pe_rev3 pt, fun B M H ρ σ Q rp k => s B M H ρ σ _ rp (Post.seq k fun x ρ1 M1 H1 v x1 r1 q1 k1 => ?_)⟩
  cases ex : x.get ρ1 with
  | none => rw [ex] at k1; exact k1.elim
  | some d =>
    rw [ex] at k1
    simp only [ofO, Res.bind] at k1
    have hq := q1.rq Ext.refl r1 ex
    cases d with
    | lst ds =>
      obtain ⟨a, vs, rfl, l, h1, h2⟩ := rq_lst hq
      exact .inl ⟨a, vs, rfl, SqL.of h1, fun p hp => post_l k1 r1 h2.reverse (by rw [List.length_reverse]; exact l) hp⟩
    | tup ds =>
      obtain ⟨a, vs, rfl, l, h1, h2⟩ := rq_tup hq
      exact .inr (.inl ⟨a, vs, rfl, h1, fun p hp => post_t k1 r1 h2.reverse (by rw [List.length_reverse]; exact l) hp⟩)
    | str z =>
      obtain ⟨rfl, g⟩ := rq_str hq
      exact .inr (.inr ⟨z, rfl, g.1, post_v k1 r1 (.str (revS_ok g))⟩)
    | _ => exact k1.elim
end
end NV

set_option Elab.async false
set_option linter.all false
set_option maxRecDepth 100000
set_option maxHeartbeats 4000000
/-! Core16: tuple(text), more list methods, defs that call themselves, facts of globals. -/
namespace NV
open PySem PySem.Spec PyProof.Rows L2

/-! ### tuple(x), x a list, a tuple, a text -/
def rTupS : List V → Hp → VK → Prop := fun xs H Q => ∃ x : Str, xs = [.str x] ∧ x.length ≤ sizeLine ∧ ∀ p, H p = none → Q (.ref p) (upd H p (.tup (x.cps.toList.map fun c => V.str ⟨#[c]⟩)))
section
variable {X : Cx} {W : WX}
theorem call_tupS (hc : X.calm = true) : CallR X (.type "tuple") rTupS := by
  intro pins s σ H xs us Q I r h
  obtain ⟨x, rfl, hz, q⟩ := h
  obtain ⟨u, rfl, t, rfl⟩ := vals1 r
  refine call_tuple_str (I.ok.hd hc) x t (fun g k acc hk hi => ?_) hz
  have I2 : Inv X pins σ H { s with heap := g, toks := k } := I.kept hk
  have hv : Vals (x.cps.toList.map fun c => V.str ⟨#[c]⟩) acc.toList := by
    refine vals_of_at (by rw [List.length_map, Array.length_toList, Array.length_toList, hi.1]) fun j v u hj hu => ?_
    obtain ⟨c, tk, e1, rfl⟩ := hi.2 j u (by rw [← hu, Array.getElem?_toList])
    rw [List.getElem?_map, Array.getElem?_toList, e1] at hj
    cases hj
    exact ⟨tk, rfl⟩
  refine ⟨.ref g.objs.size, _, I2.laid (t' := k) (fun c o e => Heap.get?_push_of_some _ e) (Nat.le_refl _) (show ObjOk X.prog X.w _ _ _ (.tup (x.cps.toList.map fun c => V.str ⟨#[c]⟩)) from ⟨?_, acc.toList, hv, ?_⟩), rfl, q _ (I2.hok.fresh (Nat.le_refl _))⟩
  · rw [List.length_map, Array.length_toList]; exact hz
  · rw [Array.toArray_toList]; exact IsTup.new _ _
def tuple3D : List D → Option D
  | [.lst xs] => some (.tup xs)
  | [.tup xs] => some (.tup xs)
  | [.str x] => some (.tup (x.cps.toList.map fun c => D.str ⟨#[c]⟩))
  | _ => none
def rTup3 (K : PySem.W.Frag) : List V → Hp → VK → Prop := fun xs H Q => (∃ p ys, xs = [.ref p] ∧ ((SqL K H p ys ∧ ∀ l, H l = none → Q (.ref l) (upd H l (.tup ys))) ∨ (SqT K H p ys ∧ Q (.ref p) H))) ∨ rTupS xs H Q
theorem call_tup3 (hc : X.calm = true) : CallR X (.type "tuple") (rTup3 X.K) := call_tuple_of.or (call_tupS hc)
theorem sign_ok {x : Str} (h : StrG x) {c : Nat} (hc : c ∈ x.cps.toList) : StrG ⟨#[c]⟩ := by
  refine ⟨by rw [sizeLine_eq]; show (1 : Nat) ≤ _; omega, ?_⟩
  have h2 := h.2
  unfold PySem.PyData.strOk at h2 ⊢
  rw [Array.all_eq_true_iff_forall_mem] at h2 ⊢
  intro y hy
  have e : y = c := by simpa using hy
  subst e
  exact h2 y (by simpa using hc)
theorem signs_rpl {K : PySem.W.Frag} {M : Addr → Prop} {H : Hp} : ∀ (cs : List Nat), (∀ c ∈ cs, StrG ⟨#[c]⟩) → RpL K M H (cs.map fun c => D.str ⟨#[c]⟩) (cs.map fun c => V.str ⟨#[c]⟩)
  | [], _ => .nil
  | c :: cs, h => .cons (.str (h c List.mem_cons_self)) (signs_rpl cs fun c hc => h c (List.mem_cons_of_mem _ hc))
theorem f_tup3 : CallE X tuple3D (rTup3 X.K) := by
  intro B W M H ρ σ ds z xs Q rp hp hf h
  unfold tuple3D at hf
  split at hf
  · exact .inl (f_tuple B W M H ρ σ _ z xs Q rp hp hf h)
  · exact .inl (f_tuple B W M H ρ σ _ z xs Q rp hp hf h)
  · cases hf
    cases hp with
    | cons a b =>
      cases b
      obtain ⟨rfl, g⟩ := rq_str a
      exact .inr ⟨_, rfl, g.1, fun p hp => post_t h rp (signs_rpl _ fun c hc => sign_ok g hc) (by rw [List.length_map, Array.length_toList]; exact g.1) hp⟩
  · cases hf

/-! ### xs.extend(ys), xs.pop() -/
def insD (d : D) (xs : List D) : Option (D × D) := match d, xs with
  | .lst ds, [.int i, y] => if ds.length < sizeLine ∧ 0 ≤ i ∧ i < 2 ^ 63 then some (.lst (ds.take i.toNat ++ [y] ++ ds.drop i.toNat), .non) else none
  | _, _ => none
theorem m_insert : MutE X insD (fun x vs H Q => ∃ (l : Addr) (xs : List V) (i : Int) (y : V), x = .ref l ∧ vs = [.int i, y] ∧ H l = some (.lst xs) ∧ xs.length < sizeLine ∧ 0 ≤ i ∧ i < 2 ^ 63 ∧
    Q .non (upd H l (.lst (xs.take i.toNat ++ [y] ++ xs.drop i.toNat)))) := by
  intro M H a d d' z ds xs Q w r hf k
  unfold insD at hf
  split at hf
  · split at hf
    · rename_i hl
      cases hf
      obtain ⟨m, l, vs, e, q⟩ := w
      cases r with
      | cons r1 r2 =>
        cases r2 with
        | @cons _ _ v2 _ r2 r3 =>
          cases r3
          cases r1
          rename_i ds i y
          have hx : Ext M H M (upd H a (.lst (vs.take i.toNat ++ [v2] ++ vs.drop i.toNat))) := Ext.write m e fun z => z
          refine ⟨a, vs, i, _, rfl, rfl, e, by rw [← q.length]; exact hl.1, hl.2.1, hl.2.2, k _ _ ⟨m, ?_, _, upd_same, RpL.ext hx (((q.take _).append (.cons r2 .nil)).append (q.drop _))⟩ fun _ _ => .non⟩
          have := hl.1
          simp only [List.length_append, List.length_take, List.length_drop, List.length_cons, List.length_nil]
          omega
    · cases hf
  · cases hf
end

/-! ### a def that calls itself: n deep -/
def recF (fl : List Bool) (n : Nat) (m : (List D → FRes) → SM) : Nat → List D → FRes
  | 0 => fun _ => .bad
  | k + 1 => runF fl n (m (recF fl n m k))
theorem fn_recD {P : Program} {w : World} {K : PySem.W.Frag} {mg : Str → Option Value} {base : Heap} {x : Str} {st : Stmt} {f : Addr} {fd : FuncData} {N ps : List Str} {k0 : Nat} {fl : List Bool} {m : (List D → FRes) → SM} (D : FnP K x st f fd) (S : FnScope N ps (defScope st)) (hf : fl.length = ps.length) (g : mg x = some (.ref f))
    (hb : ∀ (kV doc pm : Value) (an : Option Addr) (cdv ct : Value) (us : List Value), us.length = ps.length → bindArgs (PySem.W.fnOf x x (defArgs st) (defBody st) (defScope st) .none kV doc pm an cdv ct) ⟨us, []⟩ = pure (ps.zip us))
    (der : ∀ (F : List NV.D → FRes) (k : Nat), k0 ≤ k → Has P w K mg base k x fl F → ∀ (cdv : Value) (A : Around) (outer : List PySem.Env) (s : Shared) (H : Hp) (E : XK), Room k (A.deeper (envOfC x (defScope st) s.heap.objs.size f cdv)) →
      DSs (cxOf (L2.CX P w) P w K mg base N x (defScope st) f cdv A outer s H E) (fun c dx _ H' => E c dx H') (defBody st) (m F)) : ∀ n : Nat, FnOk P w K mg base (L2.CX P w) (k0 + n) f fd ps (spF K mg fl (recF fl N.length m n))
  | 0 => fn_bad
  | n + 1 => fn_defD (k := k0 + n) D S hf (der _ (k0 + n) (Nat.le_add_right _ _) (has_of D (fn_recD D S hf g hb der n) g hb))
theorem Has.up {P : Program} {w : World} {K : PySem.W.Frag} {mg : Str → Option Value} {base : Heap} {j k : Nat} {x : Str} {fl : List Bool} {F : List D → FRes} (h : Has P w K mg base j x fl F) (hk : j ≤ k) : Has P w K mg base k x fl F := by
  obtain ⟨f, fd, ps, h1, h2⟩ := h
  exact ⟨f, fd, ps, h1.mono hk, h2⟩

/-! ### the head's facts, widened by checks of one's own -/
def seesN (fa : List He.Fa) (xs : List (PySem.W.Frag → Bool)) (fn : List He.DefD) (K : PySem.W.Frag) : Bool × He.AlD := (xs.all fun c => c K, He.obsD fa fn K)
def saysN (fa : List He.Fa) (xs : List (PySem.W.Frag → Bool)) (fn : List He.DefD) (K : PySem.W.Frag) : Prop := seesN fa xs fn K = (true, He.valD fn)
def lookN (n : Nat) (fa : List He.Fa) (xs : List (PySem.W.Frag → Bool)) (fn : List He.DefD) (g : Addr → Option Obj) : Bool × He.AlD := seesN fa xs fn (He.frG g (He.asD g n))
def hookN (n : Nat) (fa : List He.Fa) (xs : List (PySem.W.Frag → Bool)) (fn : List He.DefD) : PySem.W.Hook where
  α := Bool × He.AlD
  obs := fun st => lookN n fa xs fn st.heap.get?
  val := fun _ => (true, He.valD fn)
  says := fun _ g => ∃ K : PySem.W.Frag, K.In g ∧ saysN fa xs fn K
  of := fun _ _ q => ⟨_, He.frG_in, q⟩
  keeps := fun _ _ _ ⟨K, inK, q⟩ kp => ⟨K, PySem.W.Frag.In.keeps inK kp, q⟩
theorem lookN_eq {n : Nat} {fa : List He.Fa} {xs : List (PySem.W.Frag → Bool)} {fn : List He.DefD} {g : Addr → Option Obj} {st : Shared} (h : ∀ a, g a = st.heap.get? a) : lookN n fa xs fn g = (hookN n fa xs fn).obs st := by
  rw [show g = st.heap.get? from funext h]
  rfl
theorem saysN.d {fa : List He.Fa} {xs : List (PySem.W.Frag → Bool)} {fn : List He.DefD} {K : PySem.W.Frag} (h : saysN fa xs fn K) : He.SaysD fa fn K := congrArg Prod.snd h
theorem saysN.x {fa : List He.Fa} {xs : List (PySem.W.Frag → Bool)} {fn : List He.DefD} {K : PySem.W.Frag} (h : saysN fa xs fn K) (i : Nat) {c : PySem.W.Frag → Bool} (hi : xs[i]? = some c) : c K = true :=
  List.all_eq_true.mp (congrArg Prod.fst h) c (List.mem_of_getElem? hi)
section
variable {K : PySem.W.Frag} {h : Heap} {mg : Str → Option Value}
theorem gv_int (X : K.In h) (G : h.Ns mainGlobals mg) {x : Str} {i : Int} (c : (He.Fa.int x i).ok K = true) : Gv K mg x (.int i) := by
  obtain ⟨t, e⟩ := He.int_ok X G c
  exact ⟨.int i, _, e, ⟨t, rfl⟩, fun _ _ => .int i⟩
theorem gv_str (X : K.In h) (G : h.Ns mainGlobals mg) {x z : Str} (c : (He.Fa.str x z).ok K = true) (g : strGb z = true) : Gv K mg x (.str z) := by
  obtain ⟨t, e⟩ := He.str_ok X G c
  exact ⟨.str z, _, e, ⟨t, rfl⟩, fun _ _ => .str (strGb_ok g)⟩
/-- a tuple of texts -/
def tupS (x : Str) (zs : List Str) (K : PySem.W.Frag) : Bool := He.tupB K x (zs.map He.Dv.str)
theorem gv_tupS (X : K.In h) (G : h.Ns mainGlobals mg) {x : Str} {zs : List Str} (c : (He.Fa.glo x).ok K = true) (t : tupS x zs K = true) (g : (zs.all strGb && decide (zs.length ≤ 1000)) = true) : Gv K mg x (.tup (zs.map D.str)) := by
  rw [Bool.and_eq_true] at g
  refine ⟨.ref (He.ga K x), .ref (He.ga K x), He.glo_ok X G c, rfl, fun M H => .tup (by rw [List.length_map, sizeLine_eq]; have := of_decide_eq_true g.2; omega) (He.tupB_ok t H) ?_⟩
  have e : (zs.map He.Dv.str).map (He.Dv.v K) = zs.map V.str := by rw [List.map_map]; rfl
  rw [e]
  exact rpl_strs fun y hy => strGb_ok (List.all_eq_true.mp g.1 y hy)
end
end NV

set_option Elab.async false
set_option linter.all false
set_option maxRecDepth 100000
set_option maxHeartbeats 4000000
/-! Core17: tuple * int, sorted(set(ints)), list.count. -/
namespace NVS
open PySem PySem.Spec PyProof.Rows L2
theorem tup_mul_same (l : Addr) (items : Array Value) (n : Nat) (dd : Option Addr) (sl : Array (Option Value)) (x : Int) (u : Tok) (c0 : (decide (x < -(2 ^ 63)) || decide (x ≥ 2 ^ 63)) = false) (c1 : (items.isEmpty || x == 1) = true) :
    Meets (Builtin.«tuple.__mul__» ⟨[.ref l, .int x u], []⟩) (fun _ R st => st.heap.get? l = some { cls := .type "tuple", dict := dd, data := .seq items n, slots := sl } ∧ R (.ok (.ret (Value.ref l))) st) :=
  .of_wp fun pr wo A R st hh => by
    obtain ⟨hp, g, d, tk, os⟩ := st
    obtain ⟨hl, hh⟩ := hh
    have f1 := AutoSeq1.idx_int
    wp_walk using wpAny_loadPart' hl
    repeat (first
      | (refine wpAny_ite_false (decide_eq_false (by rw [c0]; exact Bool.false_ne_true)) ?_; wp_walk using wpAny_loadPart' hl)
      | (refine wpAny_ite_true (decide_eq_true c1) ?_; wp_walk using wpAny_loadPart' hl))
    exact ⟨_, rfl, hh⟩
theorem tup_mul_none (l : Addr) (items : Array Value) (n : Nat) (dd : Option Addr) (sl : Array (Option Value)) (x : Int) (u : Tok) (c0 : (decide (x < -(2 ^ 63)) || decide (x ≥ 2 ^ 63)) = false) (c1 : (items.isEmpty || x == 1) = false) (c2 : (decide (x ≤ 0) || items.isEmpty) = true) :
    Meets (Builtin.«tuple.__mul__» ⟨[.ref l, .int x u], []⟩) (fun _ R st => st.heap.get? l = some { cls := .type "tuple", dict := dd, data := .seq items n, slots := sl } ∧
      R (.ok (.ret (Value.ref st.heap.objs.size))) { st with heap := st.heap.push { cls := Value.type "tuple", data := Data.seq #[] }, toks := st.toks }) :=
  .of_wp fun pr wo A R st hh => by
    obtain ⟨hp, g, d, tk, os⟩ := st
    obtain ⟨hl, hh⟩ := hh
    have f1 := AutoSeq1.idx_int
    wp_walk using wpAny_loadPart' hl
    repeat (first
      | (refine wpAny_ite_false (decide_eq_false (by rw [c0]; exact Bool.false_ne_true)) ?_; wp_walk using wpAny_loadPart' hl)
      | (refine wpAny_ite_false (decide_eq_false (by rw [c1]; exact Bool.false_ne_true)) ?_; wp_walk using wpAny_loadPart' hl)
      | (refine wpAny_ite_true (decide_eq_true c2) ?_; wp_walk using wpAny_loadPart' hl))
    exact ⟨_, rfl, hh⟩
end NVS
namespace NV
open PySem PySem.Spec PyProof.Rows L2
/-! ### tuple * int -/
def rRepAny (K : PySem.W.Frag) : R2 := fun x y H Q => ∃ (l : Addr) (k : Int) (xs : List V), x = .ref l ∧ y = .int k ∧ SqT K H l xs ∧ -(2 ^ 62) ≤ k ∧ k ≤ 1000 ∧ xs.length ≤ 1000 ∧ ((xs = [] ∨ k = 1) → Q (.ref l) H) ∧
  (xs ≠ [] → k ≤ 0 → ∀ p, H p = none → Q (.ref p) (upd H p (.tup []))) ∧ (xs ≠ [] → 2 ≤ k → ∀ p, H p = none → Q (.ref p) (upd H p (.tup (List.replicate k.toNat xs).flatten)))
theorem op_repAny {X : Cx} : OpR X (binaryOp .Mult) (rRepAny X.K) := by
  intro pins s σ H x y v u Q I rx ry h
  obtain ⟨l, k, xs, rfl, rfl, hT, h0, h1, hz, q1, q2, q3⟩ := h
  by_cases c : xs ≠ [] ∧ 2 ≤ k
  · exact op_repT pins s σ H _ _ v u Q I rx ry ⟨l, k, xs, rfl, rfl, hT, c.1, c.2, h1, hz, q3 c.1 c.2⟩
  · cases rx
    obtain ⟨t, rfl⟩ := ry
    obtain ⟨its, r, ⟨⟨cls, dd, data, sl⟩, ho, hc, n, hd⟩, hs⟩ := I.tuple hT
    simp only at hc hd
    subst hc hd
    have c0 : (decide (k < -(2 ^ 63)) || decide (k ≥ 2 ^ 63)) = false := by
      rw [decide_eq_false (by omega), decide_eq_false (by omega)] <;> rfl
    have he : its.toArray.isEmpty = xs.isEmpty := by cases r <;> rfl
    by_cases c1 : xs = [] ∨ k = 1
    · have c1' : (its.toArray.isEmpty || k == 1) = true := by
        rw [he]
        rcases c1 with e | e
        · rw [e]; rfl
        · rw [e]; simp
      exact wpAny_binaryOp_repeat_ref (T := "tuple") (U := "int") (by decide) ⟨_, ho, rfl⟩ (fun s' => typeIs_int s' k t) noFill_tuple_mul F.fills_int_mul F.slot_int_rmul repeat_tuple F.slot_int_index.lookup
        (call_meets F.slot_int_rmul (typeIs_int s k t) F.entry_int_rmul (F.args_int_rmul_2 _ _) (int_rmul_tuple k t l its.toArray n dd sl)
          ⟨ho, rfl, ⟨_, ho, rfl⟩, call_meets F.slot_tuple_mul ⟨_, ho, rfl⟩ F.entry_tuple_mul (F.args_tuple_mul_2 _ _) (NVS.tup_mul_same l its.toArray n dd sl k t c0 c1') ⟨ho, .ref l, H, I, rfl, q1 c1⟩⟩)
    · have hne : xs ≠ [] := fun e => c1 (.inl e)
      have hk1 : k ≠ 1 := fun e => c1 (.inr e)
      have hk : k ≤ 0 := by
        have : ¬ 2 ≤ k := fun z => c ⟨hne, z⟩
        omega
      have ex : xs.isEmpty = false := by cases xs with
        | nil => exact absurd rfl hne
        | cons _ _ => rfl
      have c1' : (its.toArray.isEmpty || k == 1) = false := by
        rw [he, ex, Bool.false_or]
        exact beq_eq_false_iff_ne.mpr hk1
      have c2' : (decide (k ≤ 0) || its.toArray.isEmpty) = true := by rw [decide_eq_true hk]; rfl
      refine wpAny_binaryOp_repeat_ref (T := "tuple") (U := "int") (by decide) ⟨_, ho, rfl⟩ (fun s' => typeIs_int s' k t) noFill_tuple_mul F.fills_int_mul F.slot_int_rmul repeat_tuple F.slot_int_index.lookup
        (call_meets F.slot_int_rmul (typeIs_int s k t) F.entry_int_rmul (F.args_int_rmul_2 _ _) (int_rmul_tuple k t l its.toArray n dd sl)
          ⟨ho, rfl, ⟨_, ho, rfl⟩, call_meets F.slot_tuple_mul ⟨_, ho, rfl⟩ F.entry_tuple_mul (F.args_tuple_mul_2 _ _) (NVS.tup_mul_none l its.toArray n dd sl k t c0 c1' c2') ⟨ho, ?_⟩⟩)
      refine ⟨.ref s.heap.objs.size, _, I.laid (t' := s.toks) (o := .tup []) (fun b ob q => Heap.get?_push_of_some _ q) (Nat.le_refl _) ?_, rfl, q2 hne hk _ (I.hok.fresh (Nat.le_refl _))⟩
      exact ⟨Nat.zero_le _, [], .nil, IsTup.new _ _⟩
/-- int * int, list * int, tuple * int -/
def mul3 (d e : D) : Option D := match d, e with
  | .tup xs, .int k => if -(2 ^ 62) ≤ k ∧ k ≤ 1000 ∧ xs.length ≤ 1000 then some (.tup (repL xs k)) else none
  | d, e => mulD d e
def rMul3 (K : PySem.W.Frag) : R2 := fun x y H Q => rMul2 x y H Q ∨ rRepAny K x y H Q
theorem op_mul3 {X : Cx} : OpR X (binaryOp .Mult) (rMul3 X.K) := op_mul2.or op_repAny
theorem o_mul3 {X : Cx} : OpE X mul3 (rMul3 X.K) := by
  intro B W M H ρ σ d e z x y Q rp hx hy hf h
  unfold mul3 at hf
  split at hf
  · split at hf
    · rename_i xs k hc
      cases hf
      obtain ⟨a, vs, rfl, l, h1, h2⟩ := rq_tup hx
      obtain rfl := rq_int hy
      have hl := h2.length
      refine .inr ⟨a, k, vs, rfl, rfl, h1, hc.1, hc.2.1, by omega, fun c => ?_, fun hne hk p hp => ?_, fun hne hk p hp => ?_⟩
      · have e : repL xs k = xs := by
          rcases c with c | c
          · have : xs = [] := List.eq_nil_of_length_eq_zero (by rw [hl, c]; rfl)
            subst this
            show (List.replicate k.toNat ([] : List D)).flatten = []
            generalize k.toNat = n
            induction n with
            | zero => rfl
            | succ n ih => rw [List.replicate_succ, List.flatten_cons, ih]; rfl
          · subst c
            show (List.replicate 1 xs).flatten = xs
            simp
        rw [e] at h
        exact post_v h rp (.tup l h1 h2)
      · have e : repL xs k = [] := by
          show (List.replicate k.toNat xs).flatten = []
          rw [show k.toNat = 0 by omega]
          rfl
        rw [e] at h
        exact post_t h rp .nil (Nat.zero_le _) hp
      · refine post_t h rp (h2.rep k.toNat) ?_ hp
        rw [repL_length, sizeLine_eq]
        have : xs.length * k.toNat ≤ 1000 * 1000 := Nat.mul_le_mul hc.2.2 (by omega)
        omega
    · cases hf
  · exact .inl (o_mul B W M H ρ σ _ _ z x y Q rp hx hy hf h)
end NV

set_option Elab.async false
set_option linter.all false
set_option maxRecDepth 100000
set_option maxHeartbeats 4000000
/-! Core18: sorted(set(ints)), list.count. -/
namespace NV
open PySem PySem.Spec PyProof.Rows L2
/-! ### sorted(set(e)), e a tuple of ints -/
def insU (i : Int) : List Int → List Int
  | [] => [i]
  | j :: l => if i < j then i :: j :: l else if i = j then j :: l else j :: insU i l
def sortU (l : List Int) : List Int := l.foldr insU []
theorem insU_mem (i : Int) : ∀ (l : List Int) (k : Int), k ∈ insU i l ↔ k = i ∨ k ∈ l
  | [], k => by simp [insU]
  | j :: l, k => by
    unfold insU
    split
    · simp
    · split
      · rename_i h; subst h; simp
      · rw [List.mem_cons, insU_mem i l k, List.mem_cons]
        constructor
        · rintro (h | h | h)
          · exact .inr (.inl h)
          · exact .inl h
          · exact .inr (.inr h)
        · rintro (h | h | h)
          · exact .inr (.inl h)
          · exact .inl h
          · exact .inr (.inr h)
theorem insU_sorted (i : Int) : ∀ l : List Int, l.Pairwise (· < ·) → (insU i l).Pairwise (· < ·)
  | [], _ => List.pairwise_singleton _ _
  | j :: l, h => by
    have h1 := List.pairwise_cons.mp h
    unfold insU
    split
    · rename_i q
      refine List.pairwise_cons.mpr ⟨fun y hy => ?_, h⟩
      rcases List.mem_cons.mp hy with e | hy
      · subst e; exact q
      · exact Int.lt_trans q (h1.1 y hy)
    · split
      · exact h
      · refine List.pairwise_cons.mpr ⟨fun y hy => ?_, insU_sorted i l h1.2⟩
        rcases (insU_mem i l y).mp hy with e | hy
        · subst e; omega
        · exact h1.1 y hy
theorem sortU_mem : ∀ (l : List Int) (k : Int), k ∈ sortU l ↔ k ∈ l
  | [], k => by simp [sortU]
  | i :: l, k => by
    show k ∈ insU i (sortU l) ↔ _
    rw [insU_mem, sortU_mem l k, List.mem_cons]
theorem sortU_sorted : ∀ l : List Int, (sortU l).Pairwise (· < ·)
  | [] => .nil
  | i :: l => insU_sorted i _ (sortU_sorted l)
theorem lt_unique : ∀ {l m : List Int}, l.Pairwise (· < ·) → m.Pairwise (· < ·) → (∀ k, k ∈ l ↔ k ∈ m) → l = m
  | [], [], _, _, _ => rfl
  | [], b :: m, _, _, h => by have := (h b).mpr List.mem_cons_self; cases this
  | a :: l, [], _, _, h => by have := (h a).mp List.mem_cons_self; cases this
  | a :: l, b :: m, h1, h2, h => by
    have p1 := List.pairwise_cons.mp h1
    have p2 := List.pairwise_cons.mp h2
    have e : a = b := by
      rcases List.mem_cons.mp ((h a).mp List.mem_cons_self) with e | e
      · exact e
      · rcases List.mem_cons.mp ((h b).mpr List.mem_cons_self) with e2 | e2
        · exact e2.symm
        · have := p2.1 a e; have := p1.1 b e2; omega
    subst e
    congr 1
    refine lt_unique p1.2 p2.2 fun k => ?_
    constructor
    · intro hk
      rcases List.mem_cons.mp ((h k).mp (List.mem_cons_of_mem _ hk)) with e | e
      · subst e; have := p1.1 k hk; omega
      · exact e
    · intro hk
      rcases List.mem_cons.mp ((h k).mpr (List.mem_cons_of_mem _ hk)) with e | e
      · subst e; have := p2.1 k hk; omega
      · exact e
section
variable {X : Cx} {W : WX} {a : Expr} {p p2 q pos apos cpos : Pos}
def tSortSet (K : PySem.W.Frag) (ta : TE) : TE := fun σ H Q => ta σ H fun x H1 => ∃ (l : Addr) (ns : List Int), x = .ref l ∧ SqT K H1 l (ns.map V.int) ∧ ns.length < 64 ∧ ∀ p, H1 p = none → Q (.ref p) (upd H1 p (.lst ((sortU ns).map V.int)))
theorem pe_sortSet {ta : TE} (hc : X.calm = true) (hg : Gl X "sorted") (hm : X.mg "sorted" = none) (hg2 : Gl X "set") (hm2 : X.mg "set" = none) (hv : bootBuiltins "sorted" = some (.builtin "sorted")) (ha : PE X a ta)
    (na : starEach [a] X.env = (false, eval a X.env) :: starEach [] X.env := by rfl) : PE X (.Call (.Name "sorted" p) [.Call (.Name "set" p2) [a] [] q] [] pos) (tSortSet X.K ta) := by
  refine ⟨fun pins s σ H Q I h => ?_⟩
  refine Call_ (ld_blt I hg hm hv (PyProof.Rows.callWith_builtin1 (PyProof.Rows.args_cons ?_ rfl) rfl rfl))
  refine Call_ (ld_blt I hg2 hm2 PyProof.Rows.boot_set (PyProof.Rows.callWith_type1 (PyProof.Rows.args_cons (thn (ha.run pins s σ H _ I h) fun v s1 ⟨x, H1, I1, r1, q1⟩ => PyProof.Rows.args_nil ?_) na) na rfl))
  obtain ⟨l, ns, rfl, hq, few, q1⟩ := q1
  cases r1
  obtain ⟨its, r, pl, hz⟩ := I1.tuple hq
  refine L2.call_set_tupI ns (I1.ok.hd hc) pl (intsAre_of r) (by unfold scanBound; omega) fun g k c R hc' hk => PyProof.Rows.args_nil ?_
  have I2 : Inv X pins σ H1 { s1 with heap := g, toks := k } := I1.kept hk
  refine sorted_set R (I1.ok.hd hc) (by omega) fun s' p out c2 ms kp gg o hp hat hi hs hmem hl => ?_
  have em : ms = sortU ns := lt_unique hs (sortU_sorted ns) fun z => by
    rw [hmem z, sortU_mem]
    exact decide_eq_true_iff
  subst em
  have hlen : ((sortU ns).map V.int).length ≤ sizeLine := by rw [List.length_map, hl, sizeLine_eq]; omega
  have hn : H1 p = none := I2.hok.fresh hp
  generalize hs2 : ({ s1 with heap := g, toks := k } : Shared) = s2 at *
  have J : Inv X pins σ (upd H1 p (.lst ((sortU ns).map V.int))) { s2 with heap := s'.heap, gens := s'.gens, drawn := s'.drawn, toks := s'.toks } :=
    I2.call (ch := []) (Un.laid kp hp hn) (I2.hok.laid kp hp ⟨hlen, out.toList, c2, vals_of_ints hi, hat⟩) (by rw [gg]; exact I2.bare) (fun _ z => nomatch z)
  have e : s' = { s2 with heap := s'.heap, gens := s'.gens, drawn := s'.drawn, toks := s'.toks } := by
    cases s'
    cases s2
    cases o
    rfl
  rw [e]
  exact ⟨.ref p, _, J, rfl, q1 p hn⟩
def eSortSet (m : EM) : EM := fun ρ => (m ρ).bind fun d ρ1 => match d with
  | .tup ds => (ofO (intsOf ds) ρ1).bind fun ns _ => if ns.length < 64 then .ok (.lst ((sortU ns).map D.int)) ρ1 else .bad
  | _ => .bad
theorem sortU_len (l : List Int) : (sortU l).length ≤ l.length := by
  have ins : ∀ (i : Int) (l : List Int), (insU i l).length ≤ l.length + 1 := by
    intro i l
    induction l with
    | nil => simp [insU]
    | cons j l ih =>
      unfold insU
      split
      · simp
      · split
        · simp
        · simp only [List.length_cons]; omega
  induction l with
  | nil => simp [sortU]
  | cons i l ih =>
    have := ins i (sortU l)
    show (insU i (sortU l)).length ≤ _
    rw [List.length_cons]
    omega
theorem df_sortSet {m : EM} (c : Cd X) (hg : Gl X "sorted") (hm : X.mg "sorted" = none) (hg2 : Gl X "set") (hm2 : X.mg "set" = none) (hv : bootBuiltins "sorted" = some (.builtin "sorted")) (h : DE X W a m) (na : starEach [a] X.env = (false, eval a X.env) :: starEach [] X.env := by rfl) : DF X W (.Call (.Name "sorted" p) [.Call (.Name "set" p2) [a] [] q] [] pos) (eSortSet m) := by
  obtain ⟨t, pt, s⟩ := h
  refine ⟨_, pe_sortSet c.calm hg hm hg2 hm2 hv pt na, fun B M H ρ σ Q rp k => s B M H ρ σ _ rp (Post.seq k fun d ρ1 M1 H1 v x1 r1 q1 k1 => ?_)⟩
  cases d with
  | tup ds =>
    simp only at k1
    cases e : intsOf ds with
    | none => rw [e] at k1; exact k1.elim
    | some ns =>
      rw [e] at k1
      simp only [ofO, Res.bind] at k1
      split at k1
      · rename_i hl
        cases q1 with
        | tup l h1 h2 =>
          obtain ⟨e1, _⟩ := ints_rpl (X := X) e h2
          subst e1
          exact ⟨_, ns, rfl, h1, hl, fun p hp => post_o k1 r1 (rpl_ints _) (by rw [List.length_map, sizeLine_eq]; have := sortU_len ns; omega) hp⟩
      · exact k1.elim
  | _ => exact k1.elim
/-! ### xs.count(y) -/
variable {b : Expr} {apos : Pos}
def countD (d e : D) : Option D := match d with
  | .lst ds => if okL 60 ds = true ∧ okD 60 e = true then some (.int ((ds.countP fun z => eqD z e : Nat) : Int)) else none
  | _ => none
def rCountL (K : PySem.W.Frag) : V → List V → Hp → VK → Prop := fun x xs H Q => ∃ (p : Addr) (vs : List V) (y : V) (ds : List PyData) (d : PyData), x = .ref p ∧ xs = [y] ∧ SqL K H p vs ∧ DpAll K H vs ds ∧ Dp K H y d ∧ PyData.canLayAll0 ds = true ∧ d.canLay0 = true ∧ d.depth ≤ 60 ∧ Q (.int ((ds.countP fun z => PyData.eqv z d : Nat) : Int)) H
theorem mt_count (hu0 : X.A.units + 64 < cLine) : MtR X "list.count" (rCountL X.K) := by
  intro pins s σ H x xs v us Q I rx rs h
  obtain ⟨p, vs, y, ds, d, rfl, rfl, hq, dl, dy, c1, c2, hd, q⟩ := h
  cases rx
  obtain ⟨u, rfl, ry⟩ := rs.one
  obtain ⟨its, r, pl, hz⟩ := I.list hq
  obtain ⟨as, r1⟩ := Dp.readsAll I ds vs its dl r
  obtain ⟨bs, r2⟩ := Dp.reads I d y u dy ry
  have hu : X.A.units + 1 + min (PyData.depthAll ds) d.depth < cLine := by
    have := hu0
    have h2 : min (PyData.depthAll ds) d.depth ≤ d.depth := Nat.min_le_right _ _
    omega
  exact SeqAt.count_list_data pl.isList r1 r2 (PyData.plainAll_of_canLay0 ds c1) (PyData.plain_of_canLay0 d c2) hu ⟨.int _, H, I.tok _, ⟨_, rfl⟩, q⟩
def eCount (ma mb : RM) : EM := fun ρ => (ma ρ).bind fun x ρ1 => (ofO (x.get ρ1) ρ1).bind fun d0 _ => if isLst d0 then (mb ρ1).bind fun y ρ2 => (ofO (x.get ρ2) ρ2).bind fun d _ => (ofO (y.get ρ2) ρ2).bind fun e _ => ofO (countD d e) ρ2 else .bad
theorem countP_py (d : D) (ds : List D) : ((toPyL ds).countP fun z => PyData.eqv z (toPy d)) = ds.countP fun z => eqD z d := by
  rw [toPyL_map, List.countP_map]
  rfl
theorem de_count {ma mb : RM} (hu0 : X.A.units + 64 < cLine) (ha : DR X W a ma) (hb : DR X W b mb)
    (hbase : attributeBase a "count" X.env (eval a X.env) = eval a X.env := by rfl)
    (hfew : ((backTo pos (starEach [b] X.env)).all (fun x => !x.1) && (backToKw pos (keywordEach [] X.env)).all (fun x => x.1.isSome)
      && decide (([b] : List Expr).length + ([] : List Keyword).length + (if ([] : List Keyword).isEmpty then 0 else 1) < 30)) = true := by rfl)
    (hline : (apos.endLine == pos.line) = true := by rfl) (hs : starEach [b] X.env = (false, eval b X.env) :: starEach [] X.env := by rfl) (hplain : (backTo pos (starEach ([] : List Expr) X.env)).any (·.1) = false := by rfl) :
    DE X W (.Call (.Attribute a "count" apos) [b] [] pos) (eCount ma mb) := by
  obtain ⟨ta, pa, sa⟩ := ha
  obtain ⟨tb, pb, sb⟩ := hb
  refine ⟨_, pe_bm PySem.F.plainAttrs_list PySem.F.slot_list_count PySem.F.type_list_count (mt_count hu0) pa (pa_cons pb pa_nil hs) hbase hfew hline hs hplain, fun B M H ρ σ Q rp k => ?_⟩
  refine sa B M H ρ σ _ rp (Post.seq k fun x ρ1 M1 H1 v x1 r1 q1 k1 => ?_)
  cases e0 : x.get ρ1 with
  | none => rw [e0] at k1; exact k1.elim
  | some d0 =>
    rw [e0] at k1
    cases d0 with
    | lst ds0 =>
      simp only [ofO, Res.bind, isLst] at k1
      obtain ⟨a0, vs0, rfl, _, hH, _⟩ := rq_lst (q1.rq Ext.refl r1 e0)
      refine ⟨.inl ⟨rfl, _, SqL.of hH⟩, ?_⟩
      refine sb B M1 H1 ρ1 σ _ r1 (Post.seq k1 fun y ρ2 M2 H2 w x2 r2 q2 k2 => ?_)
      cases ex : x.get ρ2 with
      | none => rw [ex] at k2; exact k2.elim
      | some d =>
        rw [ex] at k2
        cases ey : y.get ρ2 with
        | none => rw [ey] at k2; exact k2.elim
        | some e =>
          rw [ey] at k2
          simp only [ofO, Res.bind] at k2
          cases d with
          | lst ds =>
            by_cases hc : okL 60 ds = true ∧ okD 60 e = true
            · simp only [countD, if_pos hc] at k2
              obtain ⟨a1, vs1, e1, _, hH1, rl⟩ := rq_lst (q1.rq x2 r2 ex)
              obtain ⟨dl, c1⟩ := rl.dp 60 hc.1
              obtain ⟨dy, c2⟩ := (q2.rq Ext.refl r2 ey).dp hc.2
              refine ⟨a1, vs1, w, _, _, e1, rfl, SqL.of hH1, dl, dy, c1, c2, okD.depth 60 e hc.2, ?_⟩
              rw [countP_py]
              exact post_v k2 r2 (.int _)
            · simp only [countD, if_neg hc] at k2
              exact k2.elim
          | _ => exact k2.elim
    | _ => simp only [ofO, Res.bind, isLst] at k1; exact k1.elim
end
end NV

set_option Elab.async false
set_option linter.all false
set_option maxRecDepth 100000
set_option maxHeartbeats 4000000
/-! Core19: exceptions of own classes: raised, caught, asked of their class. -/
namespace NV
open PySem PySem.Spec PyProof.Rows L2

/-! ### an exception's object, tracked -/
section
variable {X : Cx} {pins : List (Addr × Obj)} {σ : L2.St} {H : Hp} {s : Shared} {a C : Addr} {oe : Obj} {vs : Array Value}
theorem exoT_ok {P : Program} {w : World} {h : Heap} {H : Hp} (he : h.get? a = some oe) (hz : Zc (.ref C) none oe) (hd : oe.data = .fields vs) : ObjOk P w H h a (exoT a C) :=
  ⟨⟨oe, vs, he, hz, hd⟩, ⟨oe, he⟩, fun h1 h2 z k => by
    obtain ⟨o, v, e, z1, z2⟩ := z
    exact ⟨o, v, k _ e, z1, z2⟩⟩
theorem exoT_at {P : Program} {w : World} {h : Heap} {H : Hp} (hok : HOk P w H h) (e : H a = some (exoT a C)) : ∃ oe vs, h.get? a = some oe ∧ Zc (.ref C) none oe ∧ oe.data = .fields vs := by
  have x : ObjOk P w H h a (.ext fun h => ∃ oe vs, h.get? a = some oe ∧ Zc (.ref C) none oe ∧ oe.data = .fields vs) := hok a _ e
  exact x.1
theorem Inv.trackX (I : Inv X pins σ H s) (he : s.heap.get? a = some oe) (hz : Zc (.ref C) none oe) (hd : oe.data = .fields vs) (na : H a = none) (nL : a ≠ X.env.locals) (hnew : X.s_0.heap.get? a = none) (np : ∀ p ∈ X.pn ++ pins, p.1 ≠ a) :
    Inv X pins σ (upd H a (exoT a C)) s := by
  have ne : ∀ {b u}, H b = some u → b ≠ a := fun e z => by rw [z, na] at e; cases e
  refine ⟨I.ok, I.os, I.bare, ⟨I.base.keep, I.base.slot, fun b o e n hx => ?_, I.base.there, fun b xs e => ?_, fun b o u e => ?_, fun b ps e => ?_⟩, I.loc, I.cell, ?_, fun x c e => ?_, fun p hp => ?_, fun b u e => ?_, I.len⟩
  · rw [upd_ne (fun z => by rw [z, hnew] at e; cases e)]
    exact I.base.free b o e n hx
  · have q := I.base.tups b xs e
    rw [upd_ne (ne q)]; exact q
  · have q := I.base.frzs b o u e
    rw [upd_ne (ne q)]; exact q
  · obtain ⟨m, q⟩ := I.base.tbls b ps e
    exact ⟨m, by rw [upd_ne (ne q)]; exact q⟩
  · rw [upd_ne (Ne.symm nL)]; exact I.free
  · obtain ⟨v, o, ho, hc⟩ := I.cell x c e
    have nc : c ≠ a := fun z => by
      rw [z, he] at ho
      cases ho
      rw [hd] at hc
      cases hc
    rw [upd_ne nc]; exact I.freeC x c e
  · obtain ⟨q1, q2, q3⟩ := I.pin p hp
    exact ⟨q1, by rw [upd_ne (np p hp)]; exact q2, q3⟩
  · by_cases hb : b = a
    · subst hb
      rw [upd_same] at e
      cases e
      exact exoT_ok he hz hd
    · rw [upd_ne hb] at e
      exact (I.hok b u e).stay (fun _ _ _ q => q) (fun c q => by rw [upd_ne (ne q)]; exact q) fun c xs q => by rw [upd_ne (ne q)]; exact q
/-- in an except suite, nothing pinned for it -/
theorem Inv.inSuite (I : Inv X pins σ H s) (a : Addr) : Inv (X.suite a (X.pn ++ pins)) [] σ H s :=
  ⟨I.ok.suite _ _, I.os, I.bare, I.base, I.loc, I.cell, I.free, I.freeC, fun p hp => I.pin p (by rw [List.append_nil] at hp; exact hp), I.hok, I.len⟩
theorem Inv.outSuite (I : Inv (X.suite a (X.pn ++ pins)) [] σ H s) (ok : X.Ok) : Inv X pins σ H s :=
  ⟨ok, I.os, I.bare, I.base, I.loc, I.cell, I.free, I.freeC, fun p hp => I.pin p (by rw [List.append_nil]; exact hp), I.hok, I.len⟩
end

/-! ### try: .. except T as e: .., the exception tracked -/
def dOff (i : Nat) (D : Ends) : Ends := { nx := fun σ H => D.nx (σ.set i none) H, rt := D.rt, bk := fun σ H => D.bk (σ.set i none) H, ct := fun σ H => D.ct (σ.set i none) H }
def wTr (K : PySem.W.Frag) (c : Value) (i : Nat) (ts : TS) (D : Ends) : WX := fun cls d σ H => PySem.W.exmOne K cls c = some true ∧ ∃ C, cls = .ref C ∧ d = none ∧
  ∀ a, H a = none → ts (dOff i D) (σ.set i (some (.ref a))) (upd H a (exoT a C))
section
variable {X : Cx} {x n : Str} {c : Value} {i : Nat} {body suite : List Stmt} {b0 : Stmt} {np pos pos2 : Pos} {tb : WX → TS} {ts : TS}
theorem ps_tryX (hs : X.stack = X.env :: X.outer) (hf : X.env.frame = some X.env.locals) (hN : X.N.Nodup) (hi : X.N[i]? = some n) (hln : X.env.kindOf n = some .local) (hc : Names X x c) (hx : X.ex = [])
    (hb : ∀ (W : WX) (pn : List (Addr × Obj)) (xe : Value → Shared → Prop), Takes (X.tr pn xe) W → PassesOwn (model X.prog X.w) X.A X.env xe → PSs (X.tr pn xe) body (tb W))
    (hsu : ∀ (a : Addr) (pn : List (Addr × Obj)), PSs (X.suite a pn) (b0 :: suite) ts) :
    PS X (.Try body [.ExceptHandler (some (.Name x np)) (some n) (b0 :: suite) pos2] [] [] pos) (fun D σ H => tb (wTr X.K c i ts D) D σ H) := by
  refine ⟨fun pins s0 σ0 H0 D I0 wish => ?_⟩
  have okX := I0.ok
  have frames : X.A.frames = some (X.env :: X.outer) := okX.frames.trans (congrArg some hs)
  have caught : ∀ (u : Value) (st : Shared), XE (X.tr (X.pn ++ pins) (fun e s1 => wpAny (model X.prog X.w) X.A (noteFrame e X.env) (fun _ s2 => wpAny (model X.prog X.w) X.A (setFlight e none) (fun _ s3 =>
      wpAny (model X.prog X.w) X.A (handleBy e X.env [.ExceptHandler (some (.Name x np)) (some n) (b0 :: suite) pos2]) (SP X pins D) X.xe s3) X.xe s2) X.xe s1)) (wTr X.K c i ts D) u st →
      wpAny (model X.prog X.w) X.A (noteFrame u X.env) (fun _ s2 => wpAny (model X.prog X.w) X.A (setFlight u none) (fun _ s3 =>
        wpAny (model X.prog X.w) X.A (handleBy u X.env [.ExceptHandler (some (.Name x np)) (some n) (b0 :: suite) pos2]) (SP X pins D) X.xe s3) X.xe s2) X.xe st := by
    intro u st inAir
    obtain ⟨a, G, sG, pins1, σ1, H1, cls, dx, eu, J0, ground, up, air, na, eos, bare, hex, C, ecls, edx, wants⟩ := inAir
    subst eu ecls edx
    have J1 : Inv X pins σ1 H1 sG := J0.ofTry okX
    have air2 : Sky G (X.env :: X.outer) a (Zc (.ref C) none) X.env.locals st.heap := hs ▸ air
    refine Sky.land Zc.steady frames hf air2 fun g1 fly up1 => ?_
    have J2 : Inv X pins σ1 H1 { st with heap := g1 } := J1.landed ground fly.1 (up.trans up1) eos bare
    obtain ⟨o1, v1, e1, z1, d1⟩ := fly.there
    have offFrames : a ∉ frs (X.env :: X.outer) := fun hm => by
      obtain ⟨_, o2, e2, noFields⟩ := fly.2.2.1.mem hm
      have eo : o1 = o2 := Option.some.inj (e1.symm.trans e2)
      exact noFields v1 (eo ▸ d1)
    have offLocals : a ≠ X.env.locals := fun z => offFrames (List.mem_filterMap.mpr ⟨X.env, List.mem_cons_self, by rw [hf, z]⟩)
    have inG : ∀ b o, sG.heap.get? b = some o → b ∉ frs X.stack → b ≠ a := fun b o eb nb z => by
      have q := ground b o eb nb
      rw [z, fly.2.1] at q
      cases q
    have isNew : X.s_0.heap.get? a = none := by
      cases q : X.s_0.heap.get? a with
      | none => rfl
      | some o =>
        obtain ⟨o2, q2⟩ := J1.base.there a o q (by rw [hx]; simp)
        exact absurd rfl (inG a o2 q2 (hs ▸ offFrames))
    have noPin : ∀ p ∈ X.pn ++ pins, p.1 ≠ a := fun p hp => by
      obtain ⟨q1, _, q3, q4, _⟩ := J1.pin p hp
      refine inG p.1 p.2 q1 fun hm => ?_
      rcases List.mem_cons.mp (J1.stkSub p.1 hm) with z | z
      · exact q3 z
      · exact q4 z
    have isType : PySem.W.Looks (model X.prog X.w) g1 (typeOf (.ref a)) (.ref C) := fun A Q E sA keepA q => wpAny_typeOf_ref (keepA _ _ e1) (by rw [z1.1]; exact q)
    have matchIt := PySem.W.exm_one (M := model X.prog X.w) J2.kIn isType hex
    refine wpAny_handleBy_cons (codeAny_handlers_test ?_) (by intro q; cases q)
    have S1 := Inv.inSuite J2 a
    have evalT : ∀ {Q : Value → Shared → Prop} {E : Value → Shared → Prop}, Q c { st with heap := g1 } → wpAny (model X.prog X.w) (X.A.mark (some (.ref a))) (eval (.Name x np) X.env) Q E { st with heap := g1 } := fun {Q E} q => by
      obtain ⟨isG, notD, h1 | ⟨h1, h2, h3⟩⟩ := hc
      · exact ld_glob (X := X.suite a (X.pn ++ pins)) S1 isG h1 q notD
      · exact ld_blt (X := X.suite a (X.pn ++ pins)) S1 isG h1 h2 q h3 notD
    refine evalT (matchIt.here (codeAny_handlers_suite_as (HandSPX.lands_againZ fly fun g2 fly2 up2 => ?_)))
    have J3 : Inv X pins σ1 H1 { st with heap := g2 } := J1.landed ground fly2.1 ((up.trans up1).trans up2) eos bare
    obtain ⟨o2, v2, e2, z2, d2⟩ := fly2.there
    have T := Inv.inSuite (Inv.trackX J3 e2 z2 d2 na offLocals isNew noPin) a
    refine store_ok (X := X.suite a (X.pn ++ pins)) (v := .ref a) T hN hi (.inl hln) rfl (fun s5 T5 => ?_) (.inr hln)
    refine wpAny_mono ((hsu a (X.pn ++ pins)).run [] s5 _ _ _ T5 (wants a na)) (fun fl s6 endS => ?_) (fun _ _ z => z.elim)
    have off : ∀ {σ6 : L2.St} {H6 : Hp} {Q : Shared → Prop}, Inv (X.suite a (X.pn ++ pins)) [] σ6 H6 s6 → (∀ s7, Inv X pins (σ6.set i none) H6 s7 → Q s7) →
        wpAny (model X.prog X.w) X.A (do bindName X.env n .none; unbindBehindTheSuite X.env n pos2) (fun _ s7 => Q s7) X.xe s6 := fun {σ6 H6 Q} T6 hq => gone_ok (Inv.outSuite T6 okX) hN hi hln hq
    cases fl with
    | next => obtain ⟨_, _, T6, w6⟩ := endS; exact off T6 fun _ J7 => ⟨_, _, J7, w6⟩
    | brk => obtain ⟨_, _, T6, w6⟩ := endS; exact off T6 fun _ J7 => ⟨_, _, J7, w6⟩
    | cont => obtain ⟨_, _, T6, w6⟩ := endS; exact off T6 fun _ J7 => ⟨_, _, J7, w6⟩
    | ret v => obtain ⟨_, _, _, T6, r6, w6⟩ := endS; exact off T6 fun _ J7 => ⟨_, _, _, J7, r6, w6⟩
  refine wpAny_Try_except (wpAny_mono ((hb _ (X.pn ++ pins) _ caught PassesOwn.looking).run [] s0 σ0 H0 D (I0.toTry _) wish) (fun fl s1 endB => ?_) (fun _ _ z => z))
  cases fl with
  | next => obtain ⟨_, _, J, w1⟩ := endB; exact wpAny_execs_nil ⟨_, _, J.ofTry okX, w1⟩
  | brk => obtain ⟨_, _, J, w1⟩ := endB; exact ⟨_, _, J.ofTry okX, w1⟩
  | cont => obtain ⟨_, _, J, w1⟩ := endB; exact ⟨_, _, J.ofTry okX, w1⟩
  | ret v => obtain ⟨_, _, _, J, r1, w1⟩ := endB; exact ⟨_, _, _, J.ofTry okX, r1, w1⟩
end
end NV

set_option Elab.async false
set_option linter.all false
set_option maxRecDepth 100000
set_option maxHeartbeats 4000000
/-! Core20: raise, a def called within an except suite, isinstance of an exception, list.index, operators that need no calm. -/
namespace NV
open PySem PySem.Spec PyProof.Rows L2

/-! ### raise X('..') -/
structure ExnC (K : PySem.W.Frag) (mg : Str → Option Value) (x : Str) : Prop where
  g : mg x = some (.ref (He.ga K x))
  ex : PySem.W.excIn K (He.ga K x) He.veBase "ValueError.__new__" = true
  k : PySem.W.keepIn K (.ref (He.ga K x)) = true
  b : PySem.W.subIn K (.ref (He.ga K x)) (.type "BaseException") = some true
  t : PySem.W.typeIn K (.ref (He.ga K x)) = some (.type "type")
  q : ExcC K (He.ga K x)
/-- what isinstance needs of a class, as one check -/
def excB (x : Str) (K : PySem.W.Frag) : Bool :=
  decide (PySem.W.findIn K (.ref (He.ga K x)) "__getattribute__" = some (some (.builtin "BaseException.__getattribute__"))) && (decide (PySem.W.findIn K (.ref (He.ga K x)) "__getattr__" = some none) &&
  (decide (PySem.W.subIn K (.ref (He.ga K x)) (.type "BaseException") = some true) && (PySem.W.hasDictIn K (He.ga K x) && (decide (PySem.W.findIn K (.ref (He.ga K x)) "__class__" = some (some (.builtin "object.__class__"))) &&
  (decide (PySem.W.specialIn K (.builtin "object.__class__") "__get__" = some (some (.builtin "getset_descriptor.__get__"))) && (decide (PySem.W.takesIn K (.builtin "object.__class__") = some true) && decide (PySem.W.mroIn K (He.ga K x) (.type "object") = some true)))))))
theorem excB_ok {x : Str} {K : PySem.W.Frag} (h : excB x K = true) : ExcC K (He.ga K x) := by
  obtain ⟨c1, h⟩ := He.ba h
  obtain ⟨c2, h⟩ := He.ba h
  obtain ⟨c3, h⟩ := He.ba h
  obtain ⟨c4, h⟩ := He.ba h
  obtain ⟨c5, h⟩ := He.ba h
  obtain ⟨c6, h⟩ := He.ba h
  obtain ⟨c7, c8⟩ := He.ba h
  exact ⟨of_decide_eq_true c1, of_decide_eq_true c2, of_decide_eq_true c3, c4, of_decide_eq_true c5, of_decide_eq_true c6, of_decide_eq_true c7, of_decide_eq_true c8⟩
/-- isinstance of the class x's instances: of the own class y, of a built-in one -/
def insB (x y : Str) (b : Bool) (K : PySem.W.Frag) : Bool := decide (PySem.W.kitOne K (.ref (He.ga K x)) (.ref (He.ga K y)) = some b)
def insT (x : Str) (y : String) (b : Bool) (K : PySem.W.Frag) : Bool := decide (PySem.W.kitOne K (.ref (He.ga K x)) (.type y) = some b)
theorem exnC_of {K : PySem.W.Frag} {h : Heap} {mg : Str → Option Value} {x : Str} (X : K.In h) (G : h.Ns mainGlobals mg) (c1 : (He.Fa.glo x).ok K = true) (c2 : (He.Fa.exc x).ok K = true) (c3 : excB x K = true) : ExnC K mg x := by
  obtain ⟨e1, e2, e3, e4⟩ := He.exc_ok c2
  exact ⟨He.glo_ok X G c1, e1, e2, e3, e4, excB_ok c3⟩

def sRaise (x : Str) : SM := fun ρ => .exc ⟨x, []⟩ ρ
section
variable {X : Cx} {W : WX} {x m : Str} {j : Nat} {p p1 p2 pos pos2 apos cpos : Pos} {e a b : Expr} {es : List Expr}
theorem ds_raise (c : Cd X) (tk : Takes X W) (h : ExnC X.K X.mg x) (hg : Gl X x) (hdb : (x == ("__debug__" : Str)) = false := by decide) :
    DS X W (.Raise (some (.Call (.Name x p) [.Constant (.str m) j p2] [] pos)) none pos2) (sRaise x) :=
  ⟨_, ps_raise c.calm tk (pmk_own PySem.F.excBase_ValueError h.ex h.g h.k (raises_own h.b h.t) hg hdb), fun B M H ρ σ E r k => k M H σ _ none Ext.refl r ⟨He.ga X.K x, h.g, rfl, rfl⟩⟩

/-! ### isinstance(e, T) -/
def rIsX (K : PySem.W.Frag) : List V → Hp → VK → Prop := fun xs H Q => ∃ (a C : Addr) (c : V) (cv : Value) (b : Bool), xs = [.ref a, c] ∧ H a = some (exoT a C) ∧ ExcC K C ∧ (∀ u, RelV c u → u = cv) ∧ PySem.W.kitOne K (.ref C) cv = some b ∧ Q (.bl b) H
theorem call_isX : CallR X (.builtin "isinstance") (rIsX X.K) := by
  intro pins s σ H xs us Q I r h
  obtain ⟨a, C, c, cv, b, rfl, hA, hC, hcv, hk, q⟩ := h
  cases r with
  | cons r1 rr =>
    cases rr with
    | cons r2 rr =>
      cases rr
      cases r1
      have ec := hcv _ r2
      subst ec
      obtain ⟨oe, vs, he, hz, hd⟩ := exoT_at I.hok hA
      have at_ : PySem.W.InstAt s.heap a oe C none := by
        obtain ⟨oc, od, oda, osl⟩ := oe
        obtain ⟨z1, z2⟩ := hz
        dsimp only at z1 z2 hd
        subst z1 z2 hd
        exact ⟨he, rfl, rfl, trivial⟩
      exact PySem.W.kia_one (PySem.W.handS_kitx_exc hC.hg hC.hk hC.hs hC.hd hC.ha hC.hn hC.ht hC.hm) I.kIn at_ hk (fun z => nomatch z) fun tk => ⟨.bl b, H, I.kept (t' := tk) fun _ _ z => z, rfl, q⟩
/-- what is told of an exception's class -/
def eIsX (i : Nat) (tell : Str → Option Bool) : EM := fun ρ => match ρ[i]? with
  | some (.v (.exn c [])) => (match tell c with
    | some b => .ok (.bl b) ρ
    | none => .bad)
  | _ => .bad
theorem de_isX {i : Nat} {y T : Str} {cV : V} {cv : Value} {tell : Str → Option Bool} (hv : PE X (.Name y p1) (tVar i)) (hT : PE X (.Name T p2) (tC cV)) (hcv : ∀ u, RelV cV u → u = cv)
    (ht : ∀ c b, tell c = some b → ExcC X.K (He.ga X.K c) ∧ PySem.W.kitOne X.K (.ref (He.ga X.K c)) cv = some b) (hg : Gl X "isinstance") (hm : X.mg "isinstance" = none)
    (h1 : starEach [.Name y p1, .Name T p2] X.env = (false, eval (.Name y p1) X.env) :: starEach [.Name T p2] X.env := by rfl) (h2 : starEach [.Name T p2] X.env = (false, eval (.Name T p2) X.env) :: starEach [] X.env := by rfl)
    (hpl : (backTo pos (starEach [.Name T p2] X.env)).any (·.1) = false := by rfl) : DE X W (.Call (.Name "isinstance" p) [.Name y p1, .Name T p2] [] pos) (eIsX i tell) := by
  refine ⟨_, pe_callB call_isX hg hm PyProof.Rows.boot_isinstance (pa_cons hv (pa_cons hT pa_nil h2) h1) (by decide) (by decide) h1 hpl, fun B M H ρ σ Q rp k => ?_⟩
  unfold eIsX at k
  cases es : ρ[i]? with
  | none => rw [es] at k; exact k.elim
  | some sl =>
    rw [es] at k
    cases sl with
    | v d =>
      cases d with
      | exn c fs =>
        cases fs with
        | nil =>
          dsimp only at k
          cases et : tell c with
          | none => rw [et] at k; exact k.elim
          | some b =>
            rw [et] at k
            obtain ⟨v, e1, q⟩ := rp.slot i _ es
            obtain ⟨t1, t2⟩ := ht c b et
            cases q with
            | exn n hA => exact ⟨_, join_of e1, _, _, cV, cv, b, rfl, hA, t1, hcv, t2, k M H _ Ext.refl rp (.bl b)⟩
        | cons _ _ => exact k.elim
      | _ => exact k.elim
    | _ => exact k.elim

/-! ### operators where an exception may be handled -/
def neH (d e : D) : Option D := if okD 60 d = true ∧ okD 60 e = true then some (.bl (!eqD d e)) else none
theorem o_neH : OpE X neH (rNeD X.K) := by
  intro B W M H ρ σ d e z x y Q rp hx hy hf h
  unfold neH at hf
  split at hf
  · rename_i hc
    cases hf
    obtain ⟨d1, c1⟩ := hx.dp hc.1
    obtain ⟨d2, c2⟩ := hy.dp hc.2
    exact ⟨_, _, d1, d2, shaped_of hc.1 (by decide) c1, shaped_of hc.2 (by decide) c2, post_v h rp (.bl _)⟩
  · cases hf
def ixH (d e : D) : Option D := match d with
  | .lst xs => (match e with
    | .int i => atI xs i
    | _ => none)
  | .tup xs => (match e with
    | .int i => atI xs i
    | _ => none)
  | _ => none
theorem o_ixH : OpE X ixH (rIx X.K) := by
  intro B W M H ρ σ d e z x y Q rp hx hy hf h
  cases d with
  | lst xs =>
    cases e with
    | int i =>
      obtain ⟨a, vs, e1, _, t, r⟩ := rq_lst hx
      obtain ⟨v, q, r'⟩ := r.atI hf
      exact .inl ⟨a, vs, _, v, e1, rq_int hy, SqL.of t, q, post_v h rp r'⟩
    | _ => cases hf
  | tup xs =>
    cases e with
    | int i =>
      obtain ⟨a, vs, e1, _, t, r⟩ := rq_tup hx
      obtain ⟨v, q, r'⟩ := r.atI hf
      exact .inr (.inl ⟨a, vs, _, v, e1, rq_int hy, t, q, post_v h rp r'⟩)
    | _ => cases hf
  | _ => cases hf
theorem de_ixH {ma mb : RM} (ha : DR X W a ma) (hb : DR X W b mb) (hs : PlainIx b := by exact fun _ _ => rfl) : DE X W (.Subscript a b pos) (eOp2 ixH ma mb) := by
  obtain ⟨ta, pa, sa⟩ := ha
  obtain ⟨tb, pb, sb⟩ := hb
  exact ⟨_, pe_ix ix_seq pa pb hs, op2_sat sa sb fun B M H ρ σ d e z x y Q h1 h2 h3 h4 h5 => o_ixH B W M H ρ σ d e z x y Q h1 h2 h3 h4 h5⟩
/-! ### xs.index(y), of truths -/
def indexB (bs : List Bool) (y : Bool) : Option Nat := match bs with
  | [] => none
  | b :: bs => if b == y then some 0 else (indexB bs y).map (· + 1)
theorem indexB_at : ∀ {bs : List Bool} {y : Bool} {j : Nat}, indexB bs y = some j → bs[j]? = some y ∧ ∀ m, m < j → ∀ z, bs[m]? = some z → (z == y) = false
  | [], _, _, h => by cases h
  | b :: bs, y, j, h => by
    unfold indexB at h
    split at h
    · rename_i hb
      cases h
      have e : b = y := by simpa using hb
      exact ⟨by rw [e]; rfl, fun m hm => absurd hm (Nat.not_lt_zero _)⟩
    · rename_i hb
      cases e : indexB bs y with
      | none => rw [e] at h; cases h
      | some i =>
        rw [e] at h
        cases h
        obtain ⟨h1, h2⟩ := indexB_at e
        refine ⟨h1, fun m hm z hz => ?_⟩
        cases m with
        | zero =>
          have e2 : b = z := by simpa using hz
          subst e2
          simpa using hb
        | succ m => exact h2 m (Nat.lt_of_succ_lt_succ hm) z (by simpa using hz)
def indexD (d e : D) : Option D := match d, e with
  | .lst ds, .bl y => ((blsOf ds).bind fun bs => indexB bs y).map fun j => .int (j : Nat)
  | _, _ => none
def eIndex (ma mb : RM) : EM := fun ρ => (ma ρ).bind fun x ρ1 => (ofO (x.get ρ1) ρ1).bind fun d0 _ => if isLst d0 then (mb ρ1).bind fun y ρ2 => (ofO (x.get ρ2) ρ2).bind fun d _ => (ofO (y.get ρ2) ρ2).bind fun e _ => ofO (indexD d e) ρ2 else .bad
theorem de_index {ma mb : RM} (ha : DR X W a ma) (hb : DR X W b mb)
    (hbase : attributeBase a "index" X.env (eval a X.env) = eval a X.env := by rfl)
    (hfew : ((backTo pos (starEach [b] X.env)).all (fun x => !x.1) && (backToKw pos (keywordEach [] X.env)).all (fun x => x.1.isSome)
      && decide (([b] : List Expr).length + ([] : List Keyword).length + (if ([] : List Keyword).isEmpty then 0 else 1) < 30)) = true := by rfl)
    (hline : (apos.endLine == pos.line) = true := by rfl) (hs : starEach [b] X.env = (false, eval b X.env) :: starEach [] X.env := by rfl) (hplain : (backTo pos (starEach ([] : List Expr) X.env)).any (·.1) = false := by rfl) :
    DE X W (.Call (.Attribute a "index" apos) [b] [] pos) (eIndex ma mb) := by
  obtain ⟨ta, pa, sa⟩ := ha
  obtain ⟨tb, pb, sb⟩ := hb
  refine ⟨_, pe_bm PySem.F.plainAttrs_list PySem.F.slot_list_index PySem.F.type_list_index mt_index pa (pa_cons pb pa_nil hs) hbase hfew hline hs hplain, fun B M H ρ σ Q rp k => ?_⟩
  refine sa B M H ρ σ _ rp (Post.seq k fun x ρ1 M1 H1 v x1 r1 q1 k1 => ?_)
  cases e0 : x.get ρ1 with
  | none => rw [e0] at k1; exact k1.elim
  | some d0 =>
    rw [e0] at k1
    cases d0 with
    | lst ds0 =>
      simp only [ofO, Res.bind, isLst] at k1
      obtain ⟨a0, vs0, rfl, _, hH, _⟩ := rq_lst (q1.rq Ext.refl r1 e0)
      refine ⟨.inl ⟨rfl, _, SqL.of hH⟩, ?_⟩
      refine sb B M1 H1 ρ1 σ _ r1 (Post.seq k1 fun y ρ2 M2 H2 w x2 r2 q2 k2 => ?_)
      cases ex : x.get ρ2 with
      | none => rw [ex] at k2; exact k2.elim
      | some d =>
        rw [ex] at k2
        cases ey : y.get ρ2 with
        | none => rw [ey] at k2; exact k2.elim
        | some e =>
          rw [ey] at k2
          simp only [ofO, Res.bind] at k2
          cases d with
          | lst ds =>
            cases e with
            | bl yb =>
              cases eb : blsOf ds with
              | none => simp only [indexD, eb, Option.bind, Option.map] at k2; exact k2.elim
              | some bs =>
                cases ej : indexB bs yb with
                | none => simp only [indexD, eb, ej, Option.bind, Option.map] at k2; exact k2.elim
                | some jj =>
                  simp only [indexD, eb, ej, Option.bind, Option.map] at k2
                  obtain ⟨a1, vs1, e1, _, hH1, rl⟩ := rq_lst (q1.rq x2 r2 ex)
                  have ew := rq_bl (q2.rq Ext.refl r2 ey)
                  have evs := bls_rpl (X := X) eb rl
                  subst evs ew
                  obtain ⟨i1, i2⟩ := indexB_at ej
                  refine ⟨a1, _, _, jj, .bl yb, e1, rfl, SqL.of hH1, rfl, ?_, ?_, ?_, fun m z' hm hz => ?_, post_v k2 r2 (.int _)⟩
                  · rw [List.all_map]; exact List.all_eq_true.mpr fun _ _ => rfl
                  · rw [List.getElem?_map, i1]; rfl
                  · show (yb == yb) = true
                    simp
                  · rw [List.getElem?_map] at hz
                    cases q : bs[m]? with
                    | none => rw [q] at hz; cases hz
                    | some z0 =>
                      rw [q] at hz
                      cases hz
                      exact i2 m hm z0 q
            | _ => exact k2.elim
          | _ => exact k2.elim
    | _ => simp only [ofO, Res.bind, isLst] at k1; exact k1.elim
end
end NV

set_option Elab.async false
set_option linter.all false
set_option maxRecDepth 100000
set_option maxHeartbeats 4000000
/-! Core21: defs that may be called while an exception is handled; try as a statement of environments. -/
namespace NV
open PySem PySem.Spec PyProof.Rows L2

/-- a def's promise, wherever it is called: an exception may be handled -/
structure FnT (P : Program) (w : World) (K : PySem.W.Frag) (mg : Str → Option Value) (base : Heap) (CX : CXT) (k : Nat) (f : Addr) (fd : FuncData) (ps : List Str) (sp : Sp) : Prop where
  len : ∀ vs H Q E, sp vs H Q E → vs.length = ps.length
  run : ∀ (A : Around) (outer : List PySem.Env) (s : Shared) (H : Hp) (args : Args) (us : List Value) (vs : List V) (Q : VK) (E : XK), L2H.RoomH k A → Env0 P w K mg base A outer s H → BindsTo s fd args (ps.zip us) → Vals vs us → sp vs H Q E →
    codeAny (model P w) A (.call (.ref f) args) (CR CX outer P w H s Q E) s
theorem fnT_of {CX : CXT} {P : Program} {w : World} {K : PySem.W.Frag} {mg : Str → Option Value} {base : Heap} {k : Nat} {f : Addr} {name qual : Str} {params : Arguments} {body : List Stmt} {scope : Scope} {dV kV doc pm cdv ct oc : Value} {an od : Option Addr}
    {osl : Array (Option Value)} {N ps : List Str} {sp : Sp} (found : K.lookup f = some ⟨oc, od, .func (PySem.W.fnOf name qual params body scope dV kV doc pm an cdv ct), osl⟩) (coded : PySem.W.codeIn K cdv qual = true) (S : FnScope N ps scope)
    (len : ∀ vs H Q E, sp vs H Q E → vs.length = ps.length)
    (walk : ∀ (A : Around) (outer : List PySem.Env) (s : Shared) (H : Hp) (vs : List V) (Q : VK) (E : XK) (p : Addr × Obj), L2H.RoomH k (A.deeper (envOfC qual scope s.heap.objs.size f cdv)) → sp vs H Q E →
      ∃ t, PSs (L2H.cxH CX P w K mg base N qual scope f cdv A outer s H E p) body t ∧ t { nx := fun _ H' => Q .non H', rt := Q } (L2.start N vs) H) :
    FnT P w K mg base CX (k + 1) f (PySem.W.fnOf name qual params body scope dV kV doc pm an cdv ct) ps sp := by
  constructor
  · exact len
  intro A outer s H args us vs Q E room ground bound vals told
  have inS : K.In s.heap := ground.mod.kin.keeps fun b o e => (ground.bs b o e).1
  have noLim : s.heap.NoLimit := ground.mod.nolimit.keeps fun b o e => (ground.bs b o e).1
  obtain ⟨og, es, ep, hog, hdg, _⟩ := ground.mod.glob
  have pinned : L2H.PinOk outer H s (mainGlobals, og) := by
    refine ⟨(ground.bs _ _ hog).1, (ground.bs _ _ hog).2, fun hm => ?_, fun v z => ?_⟩
    · have q := (ground.funs.mem hm).1
      rw [hog] at q
      cases q
    · have z' : og.data = .cell v := z
      rw [hdg] at z'
      cases z'
  have kinds : ∀ y ∈ ps.zip us, scope.names.lookup y.1 = some .local ∨ (scope.names.lookup y.1 = some .cell ∧ ((cellsFrom (s.heap.objs.size + 1) scope.names []).lookup y.1).isSome = true) := by
    rintro ⟨n, v⟩ hy
    exact (S.par n (List.of_mem_zip hy).1).imp id fun q => ⟨q, PySem.W.cellsFrom_some _ _ _ (.inl q)⟩
  apply codeAny_call_function room.depth (inS _ _ found) rfl S.co S.gen rfl (PySem.W.codeRec_of inS coded)
  apply bound
  apply wpAny_newFunctionEnv_cells S.kind kinds
  intro env isEnv s1 x
  subst isEnv
  obtain ⟨t, pt, ht⟩ := walk A outer s H vs Q E (mainGlobals, og) (room.deeper _) told
  have I : Inv (L2H.cxH CX P w K mg base N qual scope f cdv A outer s H E (mainGlobals, og)) [] (L2.start N vs) H s1 := L2H.inv_startH S pinned ground (len _ _ _ _ told) vals x
  refine ⟨noLim.keeps x.toInCall.keep, codeAny_func (wpAny_mono (pt.run [] s1 _ H _ I ht) (fun fl s2 out => ?_) fun _ _ out => out)⟩
  cases fl with
  | ret u => obtain ⟨v, _, H2, J, rv, q⟩ := out; exact ⟨v, H2, J.os, J.bare, J.base, J.hok, rv, q⟩
  | next => obtain ⟨_, H2, J, q⟩ := out; exact ⟨V.non, H2, J.os, J.bare, J.base, J.hok, rfl, q⟩
  | brk => obtain ⟨_, _, _, q⟩ := out; exact q.elim
  | cont => obtain ⟨_, _, _, q⟩ := out; exact q.elim
section
variable {X : Cx} {CX : CXT} {k : Nat} {f : Addr} {fd : FuncData} {ps : List Str} {sp : Sp} {E : L2.St → XK} {x : Str} {p pos : Pos} {e : Expr} {es : List Expr} {t : TA}
theorem pe_callT (F : FnT X.prog X.w X.K X.mg X.base CX k f fd ps sp) (hr : L2H.RoomH k X.A) (hg : Gl X x) (hm : X.mg x = some (.ref f)) (hk : PySem.W.keepIn X.K (.ref f) = true) (hb : Binds X.K fd ps []) (hx : ∀ σ, PassesAt CX X σ (E σ))
    (ha : PA X (e :: es) t) (hdb : (x == ("__debug__" : Str)) = false := by decide) (he : starEach (e :: es) X.env = (false, eval e X.env) :: starEach es X.env := by rfl) (hpl : (backTo pos (starEach es X.env)).any (·.1) = false := by rfl) :
    PE X (.Call (.Name x p) (e :: es) [] pos) (tCallS sp E t) := by
  constructor
  intro pins s σ H Q I h
  apply wpAny_Call_Name_kw
  apply ld_glob I hg hm _ hdb
  refine PySem.W.callWith_K (h₀ := X.base) I.ok.mod.kin hk (thn (ha.run pos pins s σ H _ I h) fun us s1 got => ?_) he hpl
  obtain ⟨vs, H1, I1, r, q⟩ := got
  refine ⟨I1.kIn, ?_⟩
  have hl : us.length = ps.length := r.length ▸ F.len _ _ _ _ q
  have bd := hb s1 us I1.kIn (by rw [List.append_nil]; exact hl)
  rw [List.append_nil] at bd
  refine wpAny_call (codeAny_mono (F.run X.A X.stack s1 H1 ⟨us, []⟩ us vs Q (E σ) hr I1.env0 bd r q) fun res s2 out => ?_)
  cases res with
  | error er => exact hx σ pins H1 s1 er s2 I1 out
  | ok fl =>
    cases fl with
    | ret u => exact I1.after out
    | _ => exact out.elim
end
def HasT (P : Program) (w : World) (K : PySem.W.Frag) (mg : Str → Option Value) (base : Heap) (k : Nat) (x : Str) (fl : List Bool) (F : List D → FRes) : Prop :=
  ∃ (f : Addr) (fd : FuncData) (ps : List Str), FnT P w K mg base (L2.CX P w) k f fd ps (spF K mg fl F) ∧ mg x = some (.ref f) ∧ PySem.W.keepIn K (.ref f) = true ∧ Binds K fd ps []
abbrev WN : WX := fun _ _ _ _ => False
section
variable {X : Cx} {W : WX} {k n : Nat} {x : Str} {p pos : Pos} {e : Expr} {es : List Expr} {fl : List Bool} {F : List D → FRes} {ma : AM}
/-- within an except suite: nothing is raised there -/
theorem de_callX (h : HasT X.prog X.w X.K X.mg X.base k x fl F) (hr : L2H.RoomH n X.A) (hg : Gl X x) (ha : DA X WN (e :: es) ma) (hk : k ≤ n := by decide)
    (hdb : (x == ("__debug__" : Str)) = false := by decide) (he : starEach (e :: es) X.env = (false, eval e X.env) :: starEach es X.env := by rfl) (hpl : (backTo pos (starEach es X.env)).any (·.1) = false := by rfl) : DE X WN (.Call (.Name x p) (e :: es) [] pos) (eCall fl false F ma) := by
  obtain ⟨f, fd, ps, h1, h2, h3, h4⟩ := h
  obtain ⟨t, pt, s⟩ := ha
  refine ⟨_, pe_callT (E := WE WN) h1 ⟨by have := hr.dp; omega, by have := hr.un; omega⟩ hg h2 h3 h4 (fun σ pins H s0 er s' I c => ?_) pt hdb he hpl, call_sat (fr := false) s⟩
  obtain ⟨_, _, _, _, _, _, _, _, _, _, _, _, w⟩ := c
  exact w.elim
end
theorem fn_defT {P : Program} {w : World} {K : PySem.W.Frag} {mg : Str → Option Value} {base : Heap} {x : Str} {st : Stmt} {f : Addr} {fd : FuncData} {N ps : List Str} {k : Nat} {fl : List Bool} {m : SM} (F : FnP K x st f fd) (S : FnScope N ps (defScope st)) (hf : fl.length = ps.length)
    (der : ∀ (cdv : Value) (A : Around) (outer : List PySem.Env) (s : Shared) (H : Hp) (E : XK) (p : Addr × Obj), L2H.RoomH k (A.deeper (envOfC x (defScope st) s.heap.objs.size f cdv)) →
      DSs (L2H.cxH (L2.CX P w) P w K mg base N x (defScope st) f cdv A outer s H E p) (fun c dx _ H' => E c dx H') (defBody st) m) : FnT P w K mg base (L2.CX P w) (k + 1) f fd ps (spF K mg fl (runF fl N.length m)) := by
  obtain ⟨oc, od, dV, kV, doc, pm, an, cdv, ct, osl, rfl, lk, hcd, hD, _⟩ := F.ex
  refine fnT_of lk hcd S (fun vs H Q E ⟨M, ds, as, _, _, h, _⟩ => by rw [h.len.1, hf]) fun A outer s H vs Q E p hr hs => ?_
  obtain ⟨t, pt, sat⟩ := der cdv A outer s H E p hr
  exact ⟨t, pt, fn_body (X := L2H.cxH (L2.CX P w) P w K mg base N x (defScope st) f cdv A outer s H E p) S hf sat hs⟩
theorem hasT_of {P : Program} {w : World} {K : PySem.W.Frag} {mg : Str → Option Value} {base : Heap} {x : Str} {st : Stmt} {f : Addr} {fd : FuncData} {ps : List Str} {k : Nat} {fl : List Bool} {F : List D → FRes} (D : FnP K x st f fd) (h : FnT P w K mg base (L2.CX P w) k f fd ps (spF K mg fl F)) (g : mg x = some (.ref f))
    (hb : ∀ (kV doc pm : Value) (an : Option Addr) (cdv ct : Value) (us : List Value), us.length = ps.length → bindArgs (PySem.W.fnOf x x (defArgs st) (defBody st) (defScope st) .none kV doc pm an cdv ct) ⟨us, []⟩ = pure (ps.zip us)) : HasT P w K mg base k x fl F :=
  ⟨f, fd, ps, h, g, D.kp, D.bindsN hb⟩
/-- .. is one of a usual call, too -/
theorem FnT.fn {P : Program} {w : World} {K : PySem.W.Frag} {mg : Str → Option Value} {base : Heap} {CX : CXT} {k : Nat} {f : Addr} {fd : FuncData} {ps : List Str} {sp : Sp} (F : FnT P w K mg base CX k f fd ps sp) : FnOk P w K mg base CX k f fd ps sp :=
  ⟨F.len, fun A outer s H args us vs Q E hr => F.run A outer s H args us vs Q E (L2H.roomH_of hr)⟩
theorem HasT.has {P : Program} {w : World} {K : PySem.W.Frag} {mg : Str → Option Value} {base : Heap} {k : Nat} {x : Str} {fl : List Bool} {F : List D → FRes} (h : HasT P w K mg base k x fl F) : Has P w K mg base k x fl F := by
  obtain ⟨f, fd, ps, h1, h2⟩ := h
  exact ⟨f, fd, ps, h1.fn, h2⟩

/-! ### try -/
def clrO (i : Nat) : Out → Out
  | .nx ρ => .nx (ρ.set i .no)
  | .rt d ρ => .rt d (ρ.set i .no)
  | .bk ρ => .bk (ρ.set i .no)
  | .ct ρ => .ct (ρ.set i .no)
  | _ => .bad
def sTry (cs : List Str) (i : Nat) (mb ms : SM) : SM := fun ρ => match mb ρ with
  | .exc x ρ1 => (match x.fs with
    | [] => if cs.contains x.cls then clrO i (ms (ρ1.set i (.v (.exn x.cls [])))) else .bad
    | _ => .bad)
  | o => o
section
variable {X : Cx} {W : WX} {x n : Str} {c : Value} {i : Nat} {body suite : List Stmt} {b0 : Stmt} {np pos pos2 : Pos} {mb ms : SM} {cs : List Str}
theorem ds_try (hs : X.stack = X.env :: X.outer) (hf : X.env.frame = some X.env.locals) (hN : X.N.Nodup) (hi : X.N[i]? = some n) (hln : X.env.kindOf n = some .local) (hc : Names X x c) (hx : X.ex = [])
    (hcs : ∀ y ∈ cs, X.mg y = some (.ref (He.ga X.K y)) ∧ PySem.W.exmOne X.K (.ref (He.ga X.K y)) c = some true)
    (hb : ∀ (W1 : WX) (pn : List (Addr × Obj)) (xe : Value → Shared → Prop), Takes (X.tr pn xe) W1 → PassesOwn (model X.prog X.w) X.A X.env xe → DSs (X.tr pn xe) W1 body mb)
    (hsu : ∀ (a : Addr) (pn : List (Addr × Obj)), DSs (X.suite a pn) WN (b0 :: suite) ms) :
    DS X W (.Try body [.ExceptHandler (some (.Name x np)) (some n) (b0 :: suite) pos2] [] [] pos) (sTry cs i mb ms) := by
  let ts : TS := fun D σ H => ∀ (a : Addr) (pn : List (Addr × Obj)), ∃ t, PSs (X.suite a pn) (b0 :: suite) t ∧ SatS (X.suite a pn) WN t ms ∧ t D σ H
  have pts : ∀ (a : Addr) (pn : List (Addr × Obj)), PSs (X.suite a pn) (b0 :: suite) ts := fun a pn => ⟨fun pins s σ H D I h => by
    obtain ⟨t, pt, _, ht⟩ := h a pn
    exact pt.run pins s σ H D I ht⟩
  let tb : WX → TS := fun W1 D σ H => ∀ (pn : List (Addr × Obj)) (xe : Value → Shared → Prop), Takes (X.tr pn xe) W1 → PassesOwn (model X.prog X.w) X.A X.env xe → ∃ t, PSs (X.tr pn xe) body t ∧ SatS (X.tr pn xe) W1 t mb ∧ t D σ H
  have ptb : ∀ (W1 : WX) (pn : List (Addr × Obj)) (xe : Value → Shared → Prop), Takes (X.tr pn xe) W1 → PassesOwn (model X.prog X.w) X.A X.env xe → PSs (X.tr pn xe) body (tb W1) := fun W1 pn xe tk po => ⟨fun pins s σ H D I h => by
    obtain ⟨t, pt, _, ht⟩ := h pn xe tk po
    exact pt.run pins s σ H D I ht⟩
  refine ⟨_, ps_tryX hs hf hN hi hln hc hx ptb pts, fun B M H ρ σ E r h => ?_⟩
  intro pn xe tk po
  obtain ⟨t, pt, sat⟩ := hb _ pn xe tk po
  refine ⟨t, pt, sat, sat B M H ρ σ E r ?_⟩
  unfold sTry at h
  cases em : mb ρ with
  | exc xx ρ1 =>
    simp only [em] at h
    obtain ⟨cl, fs⟩ := xx
    cases fs with
    | cons _ _ => exact h.elim
    | nil =>
      simp only at h
      split at h
      · rename_i hin
        intro M1 H1 σ1 cv dx x1 r1 q1
        obtain ⟨C, g1, rfl, g3⟩ := q1
        obtain ⟨k1, k2⟩ := hcs cl (List.contains_iff_mem.mp hin)
        have eC : C = He.ga X.K cl := by
          have g1 : X.mg cl = some (Value.ref C) := g1
          rw [k1] at g1
          exact (Value.ref.inj (Option.some.inj g1)).symm
        have g3 : dx = none := g3
        subst eC g3
        refine ⟨k2, _, rfl, rfl, fun a na a2 pn2 => ?_⟩
        obtain ⟨t2, pt2, sat2⟩ := hsu a2 pn2
        have nM : ¬ M1 a := fun z => r1.trk a z na
        have rT : Rep X.K B M1 (upd H1 a (exoT a (He.ga X.K cl))) (ρ1.set i (.v (.exn cl []))) (σ1.set i (some (.ref a))) := (r1.alloc na).setV i (.exn nM upd_same)
        refine ⟨t2, pt2, sat2, sat2 B M1 _ _ _ _ rT ?_⟩
        have x2 : Ext M H M1 (upd H1 a (exoT a (He.ga X.K cl))) := x1.trans (Ext.new na)
        have h2 := PostS.shift x2 h
        cases eo : ms (ρ1.set i (.v (.exn cl []))) with
        | nx ρ2 => rw [eo] at h2; exact fun M2 H2 σ2 x3 r3 => h2 M2 H2 _ x3 (r3.setNo i none)
        | rt d ρ2 => rw [eo] at h2; exact fun M2 H2 σ2 v x3 r3 q3 => h2 M2 H2 _ v x3 (r3.setNo i none) q3
        | bk ρ2 => rw [eo] at h2; exact fun M2 H2 σ2 x3 r3 => h2 M2 H2 _ x3 (r3.setNo i none)
        | ct ρ2 => rw [eo] at h2; exact fun M2 H2 σ2 x3 r3 => h2 M2 H2 _ x3 (r3.setNo i none)
        | rtF d ρ2 => rw [eo] at h2; exact h2.elim
        | exc _ _ => rw [eo] at h2; exact h2.elim
        | bad => rw [eo] at h2; exact h2.elim
      · exact h.elim
  | nx ρ1 => simp only [em] at h; exact h
  | rt d ρ1 => simp only [em] at h; exact h
  | rtF d ρ1 => simp only [em] at h; exact h
  | bk ρ1 => simp only [em] at h; exact h
  | ct ρ1 => simp only [em] at h; exact h
  | bad => simp only [em] at h; exact h
/-- the contexts of the parts -/
theorem Cd.tr {pn : List (Addr × Obj)} {xe : Value → Shared → Prop} (c : Cd X) : Cd (X.tr pn xe) := ⟨c.calm, c.units⟩
theorem room_suite {k : Nat} {a : Addr} {pn : List (Addr × Obj)} (r : Room k X.A) : L2H.RoomH k (X.suite a pn).A := ⟨r.dp, r.un⟩
end
end NV

set_option Elab.async false
set_option linter.all false
set_option maxRecDepth 100000
set_option maxHeartbeats 4000000
/-! Core22: the facts of a law's exception classes. -/
namespace NV
open PySem PySem.Spec PyProof.Rows L2

def tellC (cs : List Str) (T : Str) (c : Str) : Option Bool := if cs.contains c then some (c == T) else none
def tellV (cs : List Str) (c : Str) : Option Bool := if cs.contains c then some true else none
/-- cs: what is raised; ts: what is asked about -/
structure ClsF (K : PySem.W.Frag) (mg : Str → Option Value) (cs ts : List Str) : Prop where
  te : mg "TurnError" = some (.ref (He.ga K "TurnError"))
  cls : ∀ T ∈ ts, mg T = some (.ref (He.ga K T))
  exn : ∀ c ∈ cs, ExnC K mg c
  ins : ∀ c ∈ cs, ∀ T ∈ ts, PySem.W.kitOne K (.ref (He.ga K c)) (.ref (He.ga K T)) = some (c == T)
  insV : ∀ c ∈ cs, PySem.W.kitOne K (.ref (He.ga K c)) (.type "ValueError") = some true
  exm : ∀ c ∈ cs, PySem.W.exmOne K (.ref (He.ga K c)) (.ref (He.ga K "TurnError")) = some true
def clsfB (cs ts : List Str) (K : PySem.W.Frag) : Bool := (He.Fa.glo "TurnError").ok K && (ts.all (fun T => (He.Fa.glo T).ok K) &&
  cs.all fun c => (He.Fa.glo c).ok K && ((He.Fa.exc c).ok K && (excB c K && (ts.all (fun T => insB c T (c == T) K) && (insT c "ValueError" true K && (He.Fa.exm c "TurnError" true).ok K)))))
section
variable {K : PySem.W.Frag} {h : Heap} {mg : Str → Option Value} {cs ts : List Str}
theorem clsf_ok (X : K.In h) (G : h.Ns mainGlobals mg) (c : clsfB cs ts K = true) : ClsF K mg cs ts := by
  obtain ⟨c0, c⟩ := He.ba c
  obtain ⟨c1, c2⟩ := He.ba c
  rw [List.all_eq_true] at c1 c2
  have k := fun x hx => by
    have z := c2 x hx
    exact z
  refine ⟨He.glo_ok X G c0, fun T hT => He.glo_ok X G (c1 T hT), fun x hx => ?_, fun x hx T hT => ?_, fun x hx => ?_, fun x hx => ?_⟩
  · obtain ⟨d1, d⟩ := He.ba (k x hx)
    obtain ⟨d2, d⟩ := He.ba d
    obtain ⟨d3, d⟩ := He.ba d
    exact exnC_of X G d1 d2 d3
  · obtain ⟨d1, d⟩ := He.ba (k x hx)
    obtain ⟨d2, d⟩ := He.ba d
    obtain ⟨d3, d⟩ := He.ba d
    obtain ⟨d4, d⟩ := He.ba d
    rw [List.all_eq_true] at d4
    exact of_decide_eq_true (d4 T hT)
  · obtain ⟨d1, d⟩ := He.ba (k x hx)
    obtain ⟨d2, d⟩ := He.ba d
    obtain ⟨d3, d⟩ := He.ba d
    obtain ⟨d4, d⟩ := He.ba d
    obtain ⟨d5, d6⟩ := He.ba d
    exact of_decide_eq_true d5
  · obtain ⟨d1, d⟩ := He.ba (k x hx)
    obtain ⟨d2, d⟩ := He.ba d
    obtain ⟨d3, d⟩ := He.ba d
    obtain ⟨d4, d⟩ := He.ba d
    obtain ⟨d5, d6⟩ := He.ba d
    exact He.exm_ok d6
theorem ClsF.tryF (f : ClsF K mg cs ts) : ∀ y ∈ cs, mg y = some (.ref (He.ga K y)) ∧ PySem.W.exmOne K (.ref (He.ga K y)) (.ref (He.ga K "TurnError")) = some true := fun y hy => ⟨(f.exn y hy).g, f.exm y hy⟩
theorem ClsF.tellF (f : ClsF K mg cs ts) {T : Str} (hT : ts.contains T = true) : ∀ c b, tellC cs T c = some b → ExcC K (He.ga K c) ∧ PySem.W.kitOne K (.ref (He.ga K c)) (.ref (He.ga K T)) = some b := fun c b e => by
  unfold tellC at e
  split at e
  · rename_i hc
    cases e
    have hc := List.contains_iff_mem.mp hc
    exact ⟨(f.exn c hc).q, f.ins c hc T (List.contains_iff_mem.mp hT)⟩
  · cases e
theorem ClsF.tellVF (f : ClsF K mg cs ts) : ∀ c b, tellV cs c = some b → ExcC K (He.ga K c) ∧ PySem.W.kitOne K (.ref (He.ga K c)) (.type "ValueError") = some b := fun c b e => by
  unfold tellV at e
  split at e
  · rename_i hc
    cases e
    have hc := List.contains_iff_mem.mp hc
    exact ⟨(f.exn c hc).q, f.insV c hc⟩
  · cases e
end
section
variable {X : Cx} {W : WX} {p p1 p2 pos np pos2 : Pos} {x m : Str} {j : Nat} {cs ts : List Str}
theorem ds_raiseF (c : Cd X) (tk : Takes X W) (f : ClsF X.K X.mg cs ts) (hx : cs.contains x = true) (hg : Gl X x) (hdb : (x == ("__debug__" : Str)) = false := by decide) :
    DS X W (.Raise (some (.Call (.Name x p) [.Constant (.str m) j p2] [] pos)) none pos2) (sRaise x) := ds_raise c tk (f.exn x (List.contains_iff_mem.mp hx)) hg hdb
theorem de_isF {i : Nat} {y T : Str} (f : ClsF X.K X.mg cs ts) (hT : ts.contains T = true) (hv : PE X (.Name y p1) (tVar i)) (hgT : Gl X T) (hg : Gl X "isinstance") (hm : X.mg "isinstance" = none)
    (hd : (T == ("__debug__" : Str)) = false := by decide)
    (h1 : starEach [.Name y p1, .Name T p2] X.env = (false, eval (.Name y p1) X.env) :: starEach [.Name T p2] X.env := by rfl) (h2 : starEach [.Name T p2] X.env = (false, eval (.Name T p2) X.env) :: starEach [] X.env := by rfl)
    (hpl : (backTo pos (starEach [.Name T p2] X.env)).any (·.1) = false := by rfl) : DE X W (.Call (.Name "isinstance" p) [.Name y p1, .Name T p2] [] pos) (eIsX i (tellC cs T)) :=
  de_isX (cV := .ref (He.ga X.K T)) (cv := .ref (He.ga X.K T)) hv (pe_glob hgT (f.cls T (List.contains_iff_mem.mp hT)) rfl hd) (fun _ h => h) (f.tellF hT) hg hm h1 h2 hpl
theorem de_isV {i : Nat} {y : Str} (f : ClsF X.K X.mg cs ts) (hv : PE X (.Name y p1) (tVar i)) (hgT : Gl X "ValueError") (hmT : X.mg "ValueError" = none) (hvT : bootBuiltins "ValueError" = some (.type "ValueError")) (hg : Gl X "isinstance") (hm : X.mg "isinstance" = none)
    (h1 : starEach [.Name y p1, .Name "ValueError" p2] X.env = (false, eval (.Name y p1) X.env) :: starEach [.Name "ValueError" p2] X.env := by rfl) (h2 : starEach [.Name "ValueError" p2] X.env = (false, eval (.Name "ValueError" p2) X.env) :: starEach [] X.env := by rfl)
    (hpl : (backTo pos (starEach [.Name "ValueError" p2] X.env)).any (·.1) = false := by rfl) : DE X W (.Call (.Name "isinstance" p) [.Name y p1, .Name "ValueError" p2] [] pos) (eIsX i (tellV cs)) :=
  de_isX (cV := .ty "ValueError") (cv := .type "ValueError") hv (pe_bltn hgT hmT hvT rfl) (fun _ h => h) f.tellVF hg hm h1 h2 hpl
end
end NV

set_option Elab.async false
set_option linter.all false
set_option maxRecDepth 100000
set_option maxHeartbeats 4000000
/-! Core23: enumerate over lists and tuples. -/
namespace PySem
set_option maxHeartbeats 4000000 in
theorem meets_enum1 {v : Value} {o : Obj} {HH : Heap → Prop} (B : Begins v o HH) :
    Meets (Builtin.«enumerate.__new__» ⟨[.type "enumerate", v], []⟩) (fun _ R s => HH s.heap ∧
      R (.ok (.ret (.ref (s.heap.push o).objs.size))) { s with heap := (s.heap.push o).push { cls := .type "enumerate", data := .fields #[.none, .bool false, .ref s.heap.objs.size, rawInt 0, .none, .none] } }) :=
  .of_wp fun prog w A R s hyp => by
    obtain ⟨hp, gs, dr, tk, os⟩ := s
    obtain ⟨hv, goal⟩ := hyp
    have below := sub_enumerate
    have iterV : ∀ {A' : Around} {E : Value → Shared → Prop} {Q : Value → Shared → Prop}, Q (.ref hp.objs.size) ⟨hp.push o, gs, dr, tk, os⟩ → wpAny (model prog w) A' (pyIter v) Q E ⟨hp, gs, dr, tk, os⟩ :=
      fun z => B.iter prog w _ _ ⟨hp, gs, dr, tk, os⟩ _ hv z
    wp_walk using iterV
    refine wpAny_stack_any fun _ => wpAny_pure ?_
    split
    · rename_i c _ _ _ _ _
      cases (c == Value.type "enumerate") <;> (wp_walk using iterV; exact ⟨_, rfl, goal⟩)
    · wp_walk using iterV
      exact ⟨_, rfl, goal⟩
theorem enum_made {prog : Program} {w : World} {A : Around} {E : Value → Shared → Prop} {s : Shared} {v : Value} {o : Obj} {HH : Heap → Prop} {Q : Value → Shared → Prop} (B : Begins v o HH) (hv : HH s.heap)
    (h : ∀ h', IsEnum h' (s.heap.objs.size + 1) s.heap.objs.size 0 .none → h'.get? s.heap.objs.size = some o → (∀ b ob, s.heap.get? b = some ob → h'.get? b = some ob) → Q (.ref (s.heap.objs.size + 1)) { s with heap := h' }) :
    wpAny (model prog w) A (call (.type "enumerate") [v]) Q E s := by
  have size1 : (s.heap.push o).objs.size = s.heap.objs.size + 1 := Heap.size_push ..
  apply callType_new F.called_enumerate (by decide) (F.typeCall_enumerate_1 v) (F.newCall_enumerate_1 v) (fun obj => F.args_object_init_2 obj v) F.entry_enumerate_new (meets_enum1 B)
  refine ⟨hv, ?_⟩
  show _ ∧ _
  rw [size1]
  have isE : IsEnum ((s.heap.push o).push { cls := .type "enumerate", data := .fields #[.none, .bool false, .ref s.heap.objs.size, rawInt 0, .none, .none] }) (s.heap.objs.size + 1) s.heap.objs.size 0 .none := by
    have z := Heap.get?_push_size (s.heap.push o) (o := { cls := .type "enumerate", data := .fields #[.none, .bool false, .ref s.heap.objs.size, rawInt 0, .none, .none] }) rfl
    rw [size1] at z
    exact z
  exact ⟨⟨_, isE, rfl⟩, h _ isE (Heap.get?_push_of_some _ (Heap.get?_push_size _ B.free)) fun b ob z => Heap.get?_push_of_some _ (Heap.get?_push_of_some _ z)⟩
end PySem
namespace NV
open PySem PySem.Spec PyProof.Rows L2

/-- the tuple at a, each item in a new pair -/
def IteT (K : PySem.W.Frag) (a : Addr) : It where
  go := fun i H => ∃ (xs : List V) (x : V), SqT K H a xs ∧ xs[i]? = some x
  yld := fun i H v H' => ∃ T x, v = .ref T ∧ H T = none ∧ H' = upd H T (.tup [.int (i : Nat), x]) ∧ ∀ xs, SqT K H a xs → xs[i]? = some x
  stop := fun i H => ∃ xs : List V, SqT K H a xs ∧ xs.length ≤ i
theorem turn_enumT {P : Program} {w : World} {K : PySem.W.Frag} {elts : List Expr} {kk : Nat} {tpos : Pos} (a e it : Addr) (ae : a ≠ e) (ai : a ≠ it) (ei : e ≠ it) :
    Turn P w K (.Tuple elts kk tpos) (IteT K a) [e, it] e (fun i h => (∃ old, IsEnum h e it ((i : Nat) : Int) old) ∧ h.IsTupleIter it a i) where
  mem := List.mem_cons_self ..
  obj := fun i h ⟨⟨old, isE⟩, o, ho, _, hd⟩ b hb => by
    rcases List.mem_cons.mp hb with z | hb
    · rw [z]; exact ⟨_, isE, fun _ q => nomatch q⟩
    · exact ⟨o, (List.mem_singleton.mp hb) ▸ ho, fun _ q => by rw [hd] at q; cases q⟩
  keep := fun i h h' ⟨⟨old, isE⟩, isI⟩ k => ⟨⟨old, k e (by simp) _ isE⟩, isI.at fun o q => k it (by simp) o q⟩
  item := by
    rintro X rfl rfl rfl calm i pins s σ H E I own ⟨⟨old, isE⟩, isI⟩ ⟨xs, x, seq, at_i⟩
    obtain ⟨us, vals, tupA, _⟩ := I.tuple seq
    obtain ⟨u, at_u, rel⟩ := vals.get at_i
    have ltE : e < s.heap.objs.size := Heap.lt_size isE
    have ltI : it < s.heap.objs.size := by obtain ⟨_, q, _⟩ := isI; exact Heap.lt_size q
    have D := Draws.tuple (prog := X.prog) (w := X.w) (A := X.A.in1) (I.ok.hd calm) it a ai us.toArray
    have lt_i : i < us.toArray.size := by
      have := (List.getElem?_eq_some_iff.mp at_u).1
      simpa using this
    refine wpAny_pyNext_enum_itemD D isE ⟨isI, tupA⟩ lt_i ei (by simp [ei, Ne.symm ae]) fun u2 h1 tk at_2 out st pair _ kept => ?_
    have eu : u2 = u := by
      have q : us.toArray[i]? = some u2 := at_2
      simp only [List.getElem?_toArray] at q
      rw [at_u] at q
      exact (Option.some.inj q).symm
    subst eu
    refine ⟨_, rfl, wpAny_letOwnedTupleGo_enum (s := { s with heap := h1, toks := tk + 1 }) out fun h2 isE2 same => ?_⟩
    have pair2 : h2.get? s.heap.objs.size = some { cls := .type "tuple", data := .seq #[.int i tk, u2] } := (same.2 _ (Nat.ne_of_gt ltE)).trans pair
    have ok : ObjOk X.prog X.w (upd H s.heap.objs.size (.tup [.int (i : Nat), x])) h2 s.heap.objs.size (.tup [.int (i : Nat), x]) :=
      ⟨show 2 ≤ sizeLine by decide, [.int i tk, u2], .cons ⟨_, rfl⟩ (.cons rel .nil), _, pair2, rfl, _, rfl⟩
    have I2 : Inv X pins σ (upd H s.heap.objs.size (.tup [.int (i : Nat), x])) { s with heap := h2, toks := tk + 1 } :=
      I.turnedNew (ch := [e, it]) (fun b ob hb q => by
        have nb : b ≠ e ∧ b ≠ it := by simpa using hb
        exact (same.2 b nb.1).trans (kept b ob nb.1 nb.2 q)) own (Nat.le_refl _) ok
    refine ⟨.ref s.heap.objs.size, _, I2, rfl, ⟨_, x, rfl, I.hok.fresh (Nat.le_refl _), rfl, fun ys hy => by rw [I.tuple_inj hy seq]; exact at_i⟩, ⟨⟨u2, ?_⟩, st.1.at fun o q => (same.2 it (Ne.symm ei)).trans q⟩, fun b hb => ?_⟩
    · have succ : ((i + 1 : Nat) : Int) = (i : Int) + 1 := by omega
      rw [succ]
      exact isE2
    · have lb : b < s.heap.objs.size := by
        rcases List.mem_cons.mp hb with z | hb
        · exact z ▸ ltE
        · exact (List.mem_singleton.mp hb) ▸ ltI
      rw [upd_ne (Nat.ne_of_lt lb)]
      exact (own b hb).1
  done := by
    rintro X rfl rfl rfl calm i pins s σ H E I own ⟨⟨old, isE⟩, isI⟩ ⟨xs, seq, long⟩
    obtain ⟨us, vals, tupA, _⟩ := I.tuple seq
    have len := vals.length
    obtain ⟨o0, o1, o2, o3, o4, o5⟩ := own it (by simp)
    have D := Draws.tuple (prog := X.prog) (w := X.w) (A := X.A.in1) (I.ok.hd calm) it a ai us.toArray
    have noneAt : us.toArray[i]? = none := by simp; omega
    unfold pyNext
    have ty : s.TypeIs (.ref e) "enumerate" := ⟨_, isE, rfl⟩
    refine wpAny_bind (wpAny_attempt (wpAny_callSpecial?_slot (name := Str.ofString "__next__") ty F.slot_enumerate_next (wpAny_call_entry F.slot_enumerate_next ty F.entry_enumerate_next ?_ (F.args_enumerate_next_1 _))))
    show wpAny _ _ (field (.ref e) 2 >>= _) _ _ _
    refine wpAny_bind (wpAny_field isE rfl (x := .ref it) rfl (wpAny_bind (wpAny_nextOf_tuple_end (A := X.A.in1) (I.ok.hd calm) isI tupA noneAt fun h1 ex ext isStop => ?_)))
    obtain ⟨o, ho, hc⟩ := isStop
    refine wpAny_bind (wpAny_isInstance (T := "StopIteration") (b := true) ⟨o, ho, hc⟩ isSubtype_stop (wpAny_pure ⟨rfl, ?_⟩))
    exact I.turned (t' := s.toks) (fun b o hb q => ext b o hb q) o0 o1 o3 o4 o5
  self := fun A i s Q E ⟨⟨_, isE⟩, _⟩ h => wpAny_pyIter_enum isE h
def iEnumT (K : PySem.W.Frag) (ta : TA) : TI := fun σ H R => ta σ H fun vs H1 => ∃ a xs, vs = [.ref a] ∧ ((SqL K H1 a xs ∧ R (Ite K a) H1) ∨ (SqT K H1 a xs ∧ R (IteT K a) H1))
theorem pi_enumT {X : Cx} {e : Expr} {ta : TA} {p pos tpos : Pos} {elts : List Expr} {kk : Nat} (hg : Gl X "enumerate") (hm : X.mg "enumerate" = none) (ha : PA X [e] ta) (hs : starEach [e] X.env = [(false, eval e X.env)] := by rfl) :
    PI X (.Tuple elts kk tpos) (.Call (.Name "enumerate" p) [e] [] pos) (iEnumT X.K ta) := by
  constructor
  intro pins s σ H R I wish
  refine Call_ (ld_blt I hg hm boot_enumerate (PyProof.Rows.callWith_type1 (thn (ha.run pos pins s σ H _ I wish) fun us s1 got => ?_) hs rfl))
  obtain ⟨vs, H1, I1, r1, a, xs, rfl, cases_⟩ := got
  cases r1 with
  | cons r rr =>
    cases rr
    cases r
    have fresh : ∀ {h1 : Heap}, ∀ b ∈ [s1.heap.objs.size + 1, s1.heap.objs.size], FpOk X pins H1 b := fun {h1} b hb => by
      have le : s1.heap.objs.size ≤ b := by
        rcases List.mem_cons.mp hb with z | hb
        · rw [z]; exact Nat.le_add_right _ _
        · rw [List.mem_singleton.mp hb]; exact Nat.le_refl _
      exact I1.fpOk le (I1.hok.fresh le)
    rcases cases_ with ⟨seq, q⟩ | ⟨seq, q⟩
    · obtain ⟨its, _, isL, _⟩ := I1.list seq
      refine enum_made (begins_list a its.toArray) isL.isList fun h1 isE isI kept => wpAny_pyIter_enum isE ?_
      have I2 : Inv X pins σ H1 { s1 with heap := h1 } := I1.kept (t' := s1.toks) kept
      exact ⟨_, _, _, _, H1, rfl, I2, turn_enum a (s1.heap.objs.size + 1) s1.heap.objs.size, ⟨⟨.none, isE⟩, ⟨_, isI, rfl, rfl⟩, Nat.succ_ne_self _⟩, fresh (h1 := h1), q⟩
    · obtain ⟨its, _, isT, _⟩ := I1.tuple seq
      have la : a < s1.heap.objs.size := by obtain ⟨o, ho, _⟩ := isT; exact Heap.lt_size ho
      refine enum_made (begins_tuple a its.toArray) isT fun h1 isE isI kept => wpAny_pyIter_enum isE ?_
      have I2 : Inv X pins σ H1 { s1 with heap := h1 } := I1.kept (t' := s1.toks) kept
      exact ⟨_, _, _, _, H1, rfl, I2, turn_enumT a (s1.heap.objs.size + 1) s1.heap.objs.size (Nat.ne_of_lt (Nat.lt_succ_of_lt la)) (Nat.ne_of_lt la) (Nat.succ_ne_self _), ⟨⟨.none, isE⟩, ⟨_, isI, rfl, rfl⟩⟩, fresh (h1 := h1), q⟩

/-! ### as data -/
def enumF : Nat → List D → List D
  | _, [] => []
  | k, d :: ds => .tup [.int (k : Nat), d] :: enumF (k + 1) ds
theorem enumF_length : ∀ (k : Nat) (ds : List D), (enumF k ds).length = ds.length
  | _, [] => rfl
  | k, d :: ds => by unfold enumF; rw [List.length_cons, List.length_cons, enumF_length]
theorem enumF_at : ∀ (k : Nat) (ds : List D) (i : Nat), (enumF k ds)[i]? = (ds[i]?).map fun d => D.tup [.int ((k + i : Nat) : Int), d]
  | _, [], i => by simp [enumF]
  | k, d :: ds, 0 => by simp [enumF]
  | k, d :: ds, i + 1 => by
    unfold enumF
    rw [List.getElem?_cons_succ, List.getElem?_cons_succ, enumF_at (k + 1) ds i]
    congr 2
    funext d
    rw [show k + 1 + i = k + (i + 1) by omega]
def enumD (d : D) : Option (List D) := match d with
  | .lst ds => some (enumF 0 ds)
  | .tup ds => some (enumF 0 ds)
  | _ => none
def iEnumM (m : EM) : Env → Res (List D) := fun ρ => (m ρ).bind fun d ρ1 => ofO (enumD d) ρ1
section
variable {K : PySem.W.Frag} {M : Addr → Prop} {H : Hp}
theorem pair_rp {T : Addr} {i : Nat} {x : V} {d : D} {M' : Addr → Prop} {H' : Hp} (hT : H' T = none) (r : Rp K M' H' d x) : Rp K M' (upd H' T (.tup [.int (i : Nat), x])) (.tup [.int (i : Nat), d]) (.ref T) :=
  .tup (show 2 ≤ sizeLine by decide) (SqT.of upd_same) (.cons (.int _) (.cons (r.ext (Ext.new hT)) .nil))
theorem itOk_enumL {a : Addr} {ds : List D} {vs : List V} (h : H a = some (.lst vs)) (n : ¬ M a) (r : RpL K M H ds vs) : ItOk K M H (Ite K a) (enumF 0 ds) := fun M' H' x => by
  have seq : SqL K H' a vs := SqL.of (x _ _ h (.inl n)).1
  refine ⟨fun i hi => ⟨vs, seq, by rw [enumF_length] at hi; rw [← r.length]; exact hi⟩, fun i d hd => ?_⟩
  rw [enumF_at] at hd
  cases e : ds[i]? with
  | none => rw [e] at hd; cases hd
  | some z =>
    rw [e] at hd
    cases hd
    obtain ⟨v, hv, rv⟩ := r.get e
    refine ⟨⟨vs, v, seq, hv⟩, fun y H2 ⟨T, w, e1, nT, e2, at_⟩ => ?_⟩
    subst e1 e2
    have ew := at_ vs seq
    rw [hv] at ew
    cases ew
    refine ⟨fun b o q => by rw [upd_ne (ne_of_none q nT)]; exact q, ?_⟩
    rw [Nat.zero_add]
    exact pair_rp nT (Rp.ext x rv)
theorem itOk_enumT {a : Addr} {ds : List D} {vs : List V} (h : SqT K H a vs) (r : RpL K M H ds vs) : ItOk K M H (IteT K a) (enumF 0 ds) := fun M' H' x => by
  have seq : SqT K H' a vs := x.sqT h
  refine ⟨fun i hi => ⟨vs, seq, by rw [enumF_length] at hi; rw [← r.length]; exact hi⟩, fun i d hd => ?_⟩
  rw [enumF_at] at hd
  cases e : ds[i]? with
  | none => rw [e] at hd; cases hd
  | some z =>
    rw [e] at hd
    cases hd
    obtain ⟨v, hv, rv⟩ := r.get e
    refine ⟨⟨vs, v, seq, hv⟩, fun y H2 ⟨T, w, e1, nT, e2, at_⟩ => ?_⟩
    subst e1 e2
    have ew := at_ vs seq
    rw [hv] at ew
    cases ew
    refine ⟨fun b o q => by rw [upd_ne (ne_of_none q nT)]; exact q, ?_⟩
    rw [Nat.zero_add]
    exact pair_rp nT (Rp.ext x rv)
end
theorem di_enum {X : Cx} {W : WX} {elts : List Expr} {kk : Nat} {p pos tpos : Pos} {e : Expr} {m : EM} (hg : Gl X "enumerate") (hm : X.mg "enumerate" = none) (h : DE X W e m) (hs : starEach [e] X.env = [(false, eval e X.env)] := by rfl) (hs2 : starEach [e] X.env = (false, eval e X.env) :: starEach [] X.env := by rfl) :
    DI X W (.Tuple elts kk tpos) (.Call (.Name "enumerate" p) [e] [] pos) (iEnumM m) := by
  obtain ⟨t, pt, s⟩ := h
  refine ⟨_, pi_enumT hg hm (pa_cons pt pa_nil hs2) hs, fun B M H ρ σ Q rp k => s B M H ρ σ _ rp (Post.seq k fun d ρ1 M1 H1 v x1 r1 q1 k1 => ?_)⟩
  cases d with
  | tup ds =>
    cases q1 with
    | tup l h1 h2 => exact ⟨_, _, rfl, .inr ⟨h1, k1 M1 H1 _ Ext.refl r1 ⟨itOk_enumT h1 h2, by rw [enumF_length]; exact l⟩⟩⟩
  | lst ds =>
    cases q1 with
    | lst l n h1 h2 => exact ⟨_, _, rfl, .inl ⟨SqL.of h1, k1 M1 H1 _ Ext.refl r1 ⟨itOk_enumL h1 n h2, by rw [enumF_length]; exact l⟩⟩⟩
  | _ => exact k1.elim
end NV

set_option Elab.async false
set_option linter.all false
set_option maxRecDepth 100000
set_option maxHeartbeats 4000000
/-! Core24: an owned dict is written: d[k] = v. -/
namespace NV
open PySem PySem.Spec PyProof.Rows L2
def putD (kvs : List (Key × D)) (k : Key) (z : D) : List (Key × D) := if (lookD kvs k).isSome then kvs.map (fun kv => if kv.1 = k then (kv.1, z) else kv) else kvs ++ [(k, z)]
section
variable {K : PySem.W.Frag} {M : Addr → Prop} {H : Hp}
theorem RpK.append : ∀ {ds es : List (Key × D)} {vs ws : List (Key × V)}, RpK K M H ds vs → RpK K M H es ws → RpK K M H (ds ++ es) (vs ++ ws)
  | [], _, _, _, h, g => by cases h; exact g
  | (k, d) :: ds, _, _, _, h, g => by
    cases h with
    | cons h1 h2 => exact .cons h1 (RpK.append h2 g)
theorem RpK.mapPut {k : Key} {z : D} {v : V} (r : Rp K M H z v) : ∀ {ds : List (Key × D)} {vs : List (Key × V)}, RpK K M H ds vs → RpK K M H (ds.map fun kv => if kv.1 = k then (kv.1, z) else kv) (vs.map fun kv => if kv.1 = k then (kv.1, v) else kv)
  | [], _, h => by cases h; exact .nil
  | (j, d) :: ds, _, h => by
    cases h with
    | cons h1 h2 =>
      rw [List.map_cons, List.map_cons]
      by_cases e : j = k
      · simp only [e, if_true]
        exact .cons r (RpK.mapPut r h2)
      · simp only [e, if_false]
        exact .cons h1 (RpK.mapPut r h2)
theorem RpK.put {k : Key} {z : D} {v : V} {ds : List (Key × D)} {vs : List (Key × V)} (h : RpK K M H ds vs) (r : Rp K M H z v) : RpK K M H (putD ds k z) (putK vs k v) := by
  unfold putD putK
  rw [valV_any, h.isSome]
  cases (lookD ds k).isSome with
  | true => simp only [if_true]; exact RpK.mapPut r h
  | false => simp only [Bool.false_eq_true, if_false]; exact RpK.append h (.cons r .nil)
theorem putD_length (kvs : List (Key × D)) (k : Key) (z : D) : (putD kvs k z).length ≤ kvs.length + 1 := by
  unfold putD
  split
  · rw [List.length_map]; exact Nat.le_succ _
  · rw [List.length_append]; exact Nat.le_refl _
end
def sPut (i : Nat) (me mi : EM) : SM := fun ρ => (me ρ).out fun z ρ1 => (ofO (ownGet ρ1 i) ρ1).out fun _ _ => (mi ρ1).out fun k ρ2 => match ownGet ρ2 i, keyD k with
  | some (.dct kvs), some q => if kvs.length < sizeLine then .nx (ownSet ρ2 i (.dct (putD kvs q z))) else .bad
  | _, _ => .bad
section
variable {X : Cx} {W : WX} {e ix : Expr} {pos : Pos}
theorem ds_put {i : Nat} {x : Str} {px pos' : Pos} {me mi : EM} (hu : X.A.units + 64 < cLine) (hv : PE X (.Name x px) (tVar i)) (he : DE X W e me) (hi : DE X W ix mi) (hs : swapsWith e (some (.Subscript (.Name x px) ix pos')) pos.line X.env = pure false := by rfl) :
    DS X W (.Assign [.Subscript (.Name x px) ix pos'] e pos) (sPut i me mi) := by
  obtain ⟨t, p, s⟩ := he
  obtain ⟨t2, p2, s2⟩ := hi
  refine ⟨_, ps_dput (by omega) hv p2 p hs, fun B M H ρ σ E r h => s B M H ρ σ _ r (PostS.out h fun z ρ1 M1 H1 zv x1 r1 q1 k1 => ?_)⟩
  cases e0 : ownGet ρ1 i with
  | none => rw [e0] at k1; exact k1.elim
  | some d0 =>
    rw [e0] at k1
    obtain ⟨a, sl, hi, ho, hv1, w, _⟩ := own_at r1 e0
    refine ⟨_, hv1, s2 B M1 H1 ρ1 σ _ r1 (PostS.out (α := D) (f := fun k ρ2 => match ownGet ρ2 i, keyD k with
      | some (.dct kvs), some q => if kvs.length < sizeLine then .nx (ownSet ρ2 i (.dct (putD kvs q z))) else .bad
      | _, _ => .bad) k1 fun kd ρ2 M2 H2 kv x2 r2 q2 k2 => ?_)⟩
    cases e1 : ownGet ρ2 i with
    | none => simp only [e1] at k2; exact k2.elim
    | some d =>
      obtain ⟨a', sl', hi', ho', hv', w', es'⟩ := own_at r2 e1
      rw [hv1] at hv'
      cases hv'
      cases d with
      | dct kvs =>
        cases ek : keyD kd with
        | none => simp only [e1, ek] at k2; exact k2.elim
        | some q =>
          simp only [e1, ek] at k2
          split at k2
          · rename_i hl
            obtain ⟨m, l, ws, hH, rk⟩ := w'
            have ekv := rq_key q2.rq ek
            subst ekv
            refine ⟨a, _, rfl, DPut.k hH (by rw [← rk.length]; exact hl), ?_⟩
            have hx : Ext M2 H2 M2 (upd H2 a (.dK (putK ws q zv))) := Ext.write m hH fun z => z
            refine k2 M2 _ σ hx ?_
            rw [es']
            exact r2.mutate (d' := .dct (putD kvs q z)) hi' ho' hv1 ⟨m, Nat.le_trans (putD_length _ _ _) hl, _, upd_same, RpK.ext hx (RpK.put rk (Rp.ext x2 q1))⟩ rfl
          · exact k2.elim
      | _ => simp only [e1] at k2; exact k2.elim
end
end NV

set_option Elab.async false
set_option linter.all false
set_option maxRecDepth 100000
set_option maxHeartbeats 4000000
/-! Core25: a, b, c = e, [], [] : the new ones are owned. -/
namespace NV
open PySem PySem.Spec PyProof.Rows L2
/-- an expression that lays a new empty list or dict -/
def NewE (X : Cx) (e : Expr) (d : D) : Prop := ∃ t o, PE X e t ∧ (∀ σ H Q, (∀ p, H p = none → Q (V.ref p) (upd H p o)) → t σ H Q) ∧ ∀ (M : Addr → Prop) (H : Hp) (p : Addr), M p → H p = some o → Ow X.K M H d p
section
variable {X : Cx} {W : WX} {pos : Pos}
theorem new_lst : NewE X (.List [] pos) (.lst []) :=
  ⟨_, .lst [], pe_lst pa_nil, fun σ H Q h => ⟨Nat.zero_le _, h⟩, fun M H p m e => ⟨m, Nat.zero_le _, [], e, .nil⟩⟩
theorem new_dct : NewE X (.Dict [] [] pos) (.dct []) :=
  ⟨_, .dK [], pe_dnewK, fun σ H Q h => h, fun M H p m e => ⟨m, Nat.zero_le _, [], e, .nil⟩⟩
/-- a new one, stored -/
theorem Rep.put {B : Base} {M : Addr → Prop} {H : Hp} {ρ : Env} {σ : St} (r : Rep X.K B M H ρ σ) {d : D} {o : HO} (how : ∀ (M : Addr → Prop) (H : Hp) (p : Addr), M p → H p = some o → Ow X.K M H d p) {p : Addr} (hp : H p = none) (j : Nat) :
    Rep X.K B (fun b => M b ∨ b = p) (upd H p o) (ρ.set j (.o d)) (σ.set j (some (V.ref p))) :=
  (r.allocO hp).setO j (how _ _ _ (.inr rfl) upd_same) (r.base_new hp) (r.anon_new hp) (r.pr_new hp)
def sParE (i j : Nat) (m : EM) (d : D) : SM := fun ρ => (m ρ).out fun x ρ1 => .nx ((ρ1.set i (.v x)).set j (.o d))
def sParE3 (i j l : Nat) (m : EM) (d e : D) : SM := fun ρ => (m ρ).out fun x ρ1 => .nx (((ρ1.set i (.v x)).set j (.o d)).set l (.o e))
theorem ds_parE {i j : Nat} {x y : Str} {a b : Expr} {m : EM} {d : D} {px py pt pos : Pos} {kt k2 pt2} (c : Cd X) (hN : X.N.Nodup) (hi : X.N[i]? = some x) (hj : X.N[j]? = some y) (hij : i ≠ j)
    (hx : X.env.scope.names.lookup x = some .local) (hy : X.env.scope.names.lookup y = some .local) (ha : DE X W a m) (hb : NewE X b d)
    (hw : swappedStores [.Tuple [.Name x px, .Name y py] kt pt] (.Tuple [a, b] k2 pt2) X.env = pure (some [x, y]))
    (s1 : starEach [a, b] X.env = (false, eval a X.env) :: starEach [b] X.env := by rfl) (s2 : starEach [b] X.env = (false, eval b X.env) :: starEach [] X.env := by rfl)
    (hs : swapsWithSole [.Tuple [.Name x px, .Name y py] kt pt] (.Tuple [a, b] k2 pt2) pos.line X.env = pure false := by rfl) :
    DS X W (.Assign [.Tuple [.Name x px, .Name y py] kt pt] (.Tuple [a, b] k2 pt2) pos) (sParE i j m d) := by
  obtain ⟨t, p, s⟩ := ha
  obtain ⟨tb, o, pb, sb, ow⟩ := hb
  refine ⟨_, ps_par c.calm hN hi hj hij hx hy (pa_cons p (pa_cons pb pa_nil s2) s1) hw hs, fun B M H ρ σ E r h => s B M H ρ σ _ r (PostS.out h fun z ρ1 M1 H1 v x1 r1 q1 k1 => sb _ _ _ fun q hq => ?_)⟩
  refine ⟨_, _, rfl, ?_⟩
  exact k1 _ _ _ (Ext.newO hq) ((r1.setV i q1).put ow hq j)
theorem ds_parE3 {i j l : Nat} {x y z : Str} {a b f : Expr} {m : EM} {d e : D} {px py pz pt pos : Pos} {kt k2 pt2} (c : Cd X) (hN : X.N.Nodup) (hi : X.N[i]? = some x) (hj : X.N[j]? = some y) (hl : X.N[l]? = some z) (hij : i ≠ j) (hil : i ≠ l) (hjl : j ≠ l)
    (hx : X.env.scope.names.lookup x = some .local) (hy : X.env.scope.names.lookup y = some .local) (hz : X.env.scope.names.lookup z = some .local) (ha : DE X W a m) (hb : NewE X b d) (hf : NewE X f e)
    (hw : swappedStores [.Tuple [.Name x px, .Name y py, .Name z pz] kt pt] (.Tuple [a, b, f] k2 pt2) X.env = pure (some [x, y, z]))
    (s1 : starEach [a, b, f] X.env = (false, eval a X.env) :: starEach [b, f] X.env := by rfl) (s2 : starEach [b, f] X.env = (false, eval b X.env) :: starEach [f] X.env := by rfl) (s3 : starEach [f] X.env = (false, eval f X.env) :: starEach [] X.env := by rfl)
    (hs : swapsWithSole [.Tuple [.Name x px, .Name y py, .Name z pz] kt pt] (.Tuple [a, b, f] k2 pt2) pos.line X.env = pure false := by rfl) :
    DS X W (.Assign [.Tuple [.Name x px, .Name y py, .Name z pz] kt pt] (.Tuple [a, b, f] k2 pt2) pos) (sParE3 i j l m d e) := by
  obtain ⟨t, p, s⟩ := ha
  obtain ⟨tb, o, pb, sb, ow⟩ := hb
  obtain ⟨tf, o2, pf, sf, ow2⟩ := hf
  refine ⟨_, ps_par3 c.calm hN hi hj hl hij hil hjl hx hy hz (pa_cons p (pa_cons pb (pa_cons pf pa_nil s3) s2) s1) hw hs, fun B M H ρ σ E r h => s B M H ρ σ _ r (PostS.out h fun u ρ1 M1 H1 v x1 r1 q1 k1 => sb _ _ _ fun q hq => sf _ _ _ fun q2 hq2 => ?_)⟩
  refine ⟨_, _, _, rfl, ?_⟩
  exact k1 _ _ _ ((Ext.newO hq).trans (Ext.newO hq2)) (((r1.setV i q1).put ow hq j).put ow2 hq2 l)
end
end NV

set_option Elab.async false
set_option linter.all false
set_option maxRecDepth 100000
set_option maxHeartbeats 4000000
/-! Core26: sorted of texts, d.get(k, x). -/
namespace NV
open PySem PySem.Spec PyProof.Rows L2
def ltS (a b : Str) : Bool := ltCps a.cps.toList b.cps.toList
theorem ltC_eq : ∀ a b : List Nat, ltCps a b = false → ltCps b a = false → a = b
  | [], [], _, _ => rfl
  | [], _ :: _, h, _ => by cases h
  | _ :: _, [], _, h => by cases h
  | a :: r, b :: t, h1, h2 => by
    simp only [ltCps, Bool.or_eq_false_iff, Bool.and_eq_false_iff, decide_eq_false_iff_not, beq_eq_false_iff_ne] at h1 h2
    have e : a = b := by omega
    subst e
    rw [ltC_eq r t (h1.2.resolve_left fun z => z rfl) (h2.2.resolve_left fun z => z rfl)]
theorem ltC_asym : ∀ a b : List Nat, ltCps a b = true → ltCps b a = false
  | [], [], h => by cases h
  | [], _ :: _, _ => rfl
  | _ :: _, [], h => by cases h
  | a :: r, b :: t, h => by
    simp only [ltCps, Bool.or_eq_true, Bool.and_eq_true, decide_eq_true_eq, beq_iff_eq] at h
    simp only [ltCps, Bool.or_eq_false_iff, Bool.and_eq_false_iff, decide_eq_false_iff_not, beq_eq_false_iff_ne]
    rcases h with h | ⟨h, g⟩
    · exact ⟨by omega, .inl (by omega)⟩
    · exact ⟨by omega, .inr (ltC_asym r t g)⟩
theorem leC_trans : ∀ a b c : List Nat, ltCps b a = false → ltCps c b = false → ltCps c a = false
  | [], _, [], _, _ => rfl
  | [], _, _ :: _, _, _ => rfl
  | _ :: _, [], _, h, _ => by cases h
  | _ :: _, _ :: _, [], _, h => by cases h
  | a :: r, b :: t, c :: u, h1, h2 => by
    simp only [ltCps, Bool.or_eq_false_iff, Bool.and_eq_false_iff, decide_eq_false_iff_not, beq_eq_false_iff_ne] at h1 h2 ⊢
    refine ⟨by omega, ?_⟩
    by_cases e : c = a
    · refine .inr (leC_trans r t u (h1.2.resolve_left ?_) (h2.2.resolve_left ?_)) <;> omega
    · exact .inl e
def insW (x : Str) : List Str → List Str
  | [] => [x]
  | y :: l => if ltS y x then y :: insW x l else x :: y :: l
def sortW (l : List Str) : List Str := l.foldr insW []
theorem insW_perm (x : Str) : ∀ l, (insW x l).Perm (x :: l)
  | [] => .refl _
  | y :: l => by
    unfold insW
    split
    · exact ((insW_perm x l).cons y).trans (List.Perm.swap x y l)
    · exact .refl _
theorem sortW_perm : ∀ l, (sortW l).Perm l
  | [] => .refl _
  | i :: l => (insW_perm i (sortW l)).trans ((sortW_perm l).cons i)
def leW (a b : Str) : Bool := !ltS b a
theorem insW_sorted (x : Str) : ∀ l : List Str, l.Pairwise (fun a b => leW a b = true) → (insW x l).Pairwise (fun a b => leW a b = true)
  | [], _ => List.pairwise_singleton _ _
  | y :: l, h => by
    unfold insW
    have h1 := List.pairwise_cons.mp h
    split
    · rename_i q
      refine List.pairwise_cons.mpr ⟨fun z hz => ?_, insW_sorted x l h1.2⟩
      rcases List.mem_cons.mp ((insW_perm x l).mem_iff.mp hz) with e | hz
      · subst e
        show (!ltS z y) = true
        rw [show ltS z y = false from ltC_asym _ _ q]
        rfl
      · exact h1.1 z hz
    · rename_i q
      have q2 : ltS y x = false := by simpa using q
      refine List.pairwise_cons.mpr ⟨fun z hz => ?_, h⟩
      rcases List.mem_cons.mp hz with e | hz
      · subst e
        show (!ltS z x) = true
        rw [q2]; rfl
      · have g := h1.1 z hz
        have g2 : ltS z y = false := by
          unfold leW at g
          simpa using g
        show (!ltS z x) = true
        rw [show ltS z x = false from leC_trans _ _ _ q2 g2]; rfl
theorem sortW_sorted : ∀ l, (sortW l).Pairwise (fun a b => leW a b = true)
  | [] => .nil
  | i :: l => insW_sorted i _ (sortW_sorted l)
theorem rising_pw : ∀ (l : List Str) (p : Str), risingS p l = true → (∀ y ∈ l, leW p y = true) ∧ l.Pairwise (fun a b => leW a b = true)
  | [], _, _ => ⟨fun _ h => by (cases h), .nil⟩
  | x :: r, p, h => by
    unfold risingS at h
    rw [Bool.and_eq_true] at h
    obtain ⟨h1, h2⟩ := rising_pw r x h.2
    have px : leW p x = true := h.1
    refine ⟨fun y hy => ?_, List.pairwise_cons.mpr ⟨h1, h2⟩⟩
    rcases List.mem_cons.mp hy with e | hy
    · subst e; exact px
    · have g := h1 y hy
      unfold leW at g px ⊢
      have a1 : ltS y x = false := by simpa using g
      have a2 : ltS x p = false := by simpa using px
      rw [show ltS y p = false from leC_trans _ _ _ a2 a1]; rfl
theorem sortedS_pw {l : List Str} (h : sortedS l = true) : l.Pairwise (fun a b => leW a b = true) := by
  cases l with
  | nil => exact .nil
  | cons x r =>
    obtain ⟨h1, h2⟩ := rising_pw r x h
    exact List.pairwise_cons.mpr ⟨h1, h2⟩
theorem sortW_unique {l m : List Str} (hp : l.Perm m) (hs : l.Pairwise (fun a b => leW a b = true)) : l = sortW m :=
  List.Perm.eq_of_pairwise (le := fun a b : Str => leW a b = true) (by
    intro a b _ _ h1 h2
    have h1 : (!ltS b a) = true := h1
    have h2 : (!ltS a b) = true := h2
    have g1 : ltS b a = false := by simpa using h1
    have g2 : ltS a b = false := by simpa using h2
    exact Str.ext' (Array.toList_inj.mp (ltC_eq _ _ g2 g1))) hs (sortW_sorted m) (hp.trans (sortW_perm m).symm)
theorem sortW_congr {l m : List Str} (hp : l.Perm m) : sortW l = sortW m := sortW_unique ((sortW_perm l).trans hp) (sortW_sorted l)
def sortedM (ds : List D) : Option D := match sortedD ds with
  | some z => some z
  | none => match ds with
    | [.lst xs] => (strsOf xs).bind fun ss => if ss.length < 64 then some (.lst ((sortW ss).map .str)) else none
    | _ => none
section
variable {X : Cx}
theorem f_sortedM : CallF X sortedM (fun xs H Q => rSorted X.K xs H Q ∨ rSortedS X.K xs H Q) := by
  intro B W M H ρ σ ds z xs Q rp hp hf h
  unfold sortedM at hf
  cases e0 : sortedD ds with
  | some z0 =>
    rw [e0] at hf
    cases hf
    exact .inl (f_sorted B W M H ρ σ ds _ xs Q rp hp e0 h)
  | none =>
    rw [e0] at hf
    simp only at hf
    split at hf
    · rename_i xs'
      cases e1 : strsOf xs' with
      | none => rw [e1] at hf; cases hf
      | some ss =>
        rw [e1] at hf
        simp only [Option.bind_some] at hf
        split at hf
        · rename_i hl
          cases hf
          cases hp with
          | cons a b =>
            cases b
            obtain ⟨p, vs, rfl, l, h1, h2⟩ := rq_lst a
            obtain ⟨ev, ed, hg⟩ := strs_rpl e1 h2
            subst ev
            refine .inr ⟨p, ss, rfl, SqL.of h1, hl, fun ys q hpm hso hn => ?_⟩
            have e2 : ys = sortW ss := sortW_unique hpm (sortedS_pw hso)
            subst e2
            refine post_o h rp (rpl_strs fun x hx => hg x ((sortW_perm ss).mem_iff.mp hx)) (by rw [List.length_map, (sortW_perm ss).length_eq, sizeLine_eq]; omega) hn
        · cases hf
    · cases hf
theorem cr_sortedM : CallR X (.builtin "sorted") (fun xs H Q => rSorted X.K xs H Q ∨ rSortedS X.K xs H Q) := cr_sorted.or cr_sortedS
/-! ### d.get(k, x) -/
def getD3 (d k z : D) : Option D := match d with
  | .dct kvs => (keyD k).map fun q => (lookD kvs q).getD z
  | _ => none
def isDct : D → Bool
  | .dct _ => true
  | _ => false
def eGet (mo me mf : EM) : EM := fun ρ => (mo ρ).bind fun d ρ1 => if isDct d then (me ρ1).bind fun k ρ2 => (mf ρ2).bind fun z ρ3 => ofO (getD3 d k z) ρ3 else .bad
variable {W : WX} {o e f : Expr} {apos cpos : Pos} {mo me mf : EM}
theorem de_get (hu : X.A.units + 64 < cLine) (ho : DE X W o mo) (he : DE X W e me) (hf : DE X W f mf)
    (base : attributeBase o "get" X.env (eval o X.env) = eval o X.env := by rfl)
    (few : ((backTo cpos (starEach [e, f] X.env)).all (fun x => !x.1) && (backToKw cpos (keywordEach [] X.env)).all (fun x => x.1.isSome)
      && decide (([e, f] : List Expr).length + ([] : List Keyword).length + (if ([] : List Keyword).isEmpty then 0 else 1) < 30)) = true := by rfl)
    (line : (apos.endLine == cpos.line) = true := by rfl) (trees : backTo cpos (starEach [e, f] X.env) = [(false, eval e X.env), (false, eval f X.env)] := by rfl) :
    DE X W (.Call (.Attribute o "get" apos) [e, f] [] cpos) (eGet mo me mf) := by
  obtain ⟨to, po, so⟩ := ho
  obtain ⟨te, pe, se⟩ := he
  obtain ⟨tf, pf, sf⟩ := hf
  refine ⟨_, pe_dget2 (by omega) po pe pf ⟨base, few, line, trees⟩, fun B M H ρ σ Q rp k => so B M H ρ σ _ rp (Post.seq k fun d ρ1 M1 H1 v x1 r1 q1 k1 => ?_)⟩
  cases d with
  | dct kvs =>
    simp only [isDct, if_true] at k1
    obtain ⟨a, vs, rfl, _, hH, _⟩ := rq_dct q1.rq
    refine ⟨a, rfl, .inl ⟨vs, .inl hH⟩, se B M1 H1 ρ1 σ _ r1 (Post.seq k1 fun kd ρ2 M2 H2 y x2 r2 q2 k2 => ?_)⟩
    refine sf B M2 H2 ρ2 σ _ r2 (Post.seq k2 fun zd ρ3 M3 H3 z x3 r3 q3 k3 => ?_)
    have qd := Rp.ext (x2.trans x3) q1
    obtain ⟨a', vs', ea, _, hH', rk⟩ := rq_dct qd.rq
    cases ea
    have qk := Rp.ext x3 q2
    cases ek : keyD kd with
    | none => simp only [getD3, ek] at k3; exact k3.elim
    | some q =>
      simp only [getD3, ek, Option.map_some, ofO] at k3
      have ey := rq_key qk.rq ek
      subst ey
      refine ⟨_, DGet.k hH', ?_⟩
      have lk := rk.look q
      cases el : lookD kvs q with
      | none =>
        rw [el] at lk k3
        rw [show valV vs' q = none from lk]
        exact k3 M3 H3 _ Ext.refl r3 q3
      | some dd =>
        rw [el] at lk k3
        obtain ⟨w, e1, rw1⟩ := lk
        rw [e1]
        exact k3 M3 H3 _ Ext.refl r3 rw1
  | _ => exact k1.elim
end
end NV

set_option Elab.async false
set_option linter.all false
set_option maxRecDepth 100000
set_option maxHeartbeats 4000000
/-! Core27: (a, b, ..) = a list. -/
namespace NV
open PySem PySem.Spec PyProof.Rows L2
section
variable {X : Cx} {W : WX}
def gTl (n : Nat) (gs : List D → Env → Option Env) (d : D) (ρ : Env) : Option Env := match d with
  | .lst ds => if ds.length = n then gs ds ρ else none
  | _ => none
theorem dg_unl {es : List Expr} {k : Nat} {gs : List D → Env → Option Env} {n : Nat} {vs : List Nat} {pos : Pos} (c : Cd X) (h : DGs X es gs vs) (hn : (assignEach es X.env).length = n := by rfl) (hst : (assignEach es X.env).findIdx? (·.1) = none := by rfl) : DG X (.Tuple es k pos) (gTl n gs) vs := by
  obtain ⟨t, p, s⟩ := h
  refine ⟨_, pg_unl c.calm p hn hst, fun B M H ρ ρ' σ d v Q r q e k => ?_⟩
  unfold gTl at e
  split at e
  · split at e
    · rename_i hl
      cases q with
      | lst l h1 h2 h3 => exact ⟨_, _, rfl, SqL.of h2, by rw [← h3.length]; exact hl, s B M H ρ ρ' σ _ _ Q r h3 e k⟩
    · cases e
  · cases e
end
end NV

set_option Elab.async false
set_option linter.all false
set_option maxRecDepth 100000
set_option maxHeartbeats 4000000
/-! Core28: sorted(set(texts)). -/
namespace NVT
open PySem PySem.Spec PyProof PyProof.Rows L2
def keyT (e : Int × Value) : Str := strOf e.2
def GoodT (w : World) (e : Int × Value) : Prop := ∃ x tk, e.2 = Value.str x tk ∧ e.1 = hashStr w x
/-- the set of texts at a, whose table rises and can be walked -/
structure SetT (w : World) (h : Heap) (a : Addr) (S : Str → Bool) (o : Obj) (es : Array (Int × Value)) (ep : Nat) (t : SetTable) : Prop where
  at_ : h.get? a = some o
  ex : o.ExactSet
  dat : o.data = .set es ep t
  good : ∀ e ∈ es.toList, GoodT w e
  nd : (es.toList.map keyT).Nodup
  mem : ∀ k, S k = true ↔ k ∈ es.toList.map keyT
  few : es.size < scanBound
  fits : t.fits es.size = true
  ris : Ris t.place.toList
  led : w.params.followText "set-order" = true ∨ t.led = true
def IsT (w : World) (h : Heap) (a : Addr) (S : Str → Bool) (n : Nat) : Prop := ∃ o es ep t, SetT w h a S o es ep t ∧ es.size = n
section
variable {P : Program} {w : World} {h h' : Heap} {a : Addr} {S S' : Str → Bool} {n : Nat}
theorem IsT.keep (R : IsT w h a S n) (k : ∀ o, h.get? a = some o → h'.get? a = some o) : IsT w h' a S n := by
  obtain ⟨o, es, ep, t, r, hn⟩ := R
  exact ⟨o, es, ep, t, { r with at_ := k o r.at_ }, hn⟩
theorem IsT.congr (R : IsT w h a S n) (e : ∀ k, S' k = S k) : IsT w h a S' n := by
  have q : S' = S := funext e
  rw [q]; exact R
theorem elemsT {l : List (Int × Value)} (g : ∀ e ∈ l, GoodT w e) : ElemsOf (strKind P w) l := fun e he => by
  obtain ⟨x, tk, h1, h2⟩ := g e he
  exact ⟨⟨x, by rw [h1]; exact strKind_is P w x tk, h2⟩, by rw [h1] <;> rfl⟩
theorem isT_key {e : Int × Value} (g : GoodT w e) (k : Str) : (strKind P w).is k e.2 = true ↔ keyT e = k := by
  obtain ⟨x, tk, h1, _⟩ := g
  unfold keyT
  rw [h1]
  show Value.isStrOf k (.str x tk) = true ↔ x = k
  simp [Value.isStrOf]
theorem memT {l : List (Int × Value)} (g : ∀ e ∈ l, GoodT w e) (k : Str) : k ∈ l.map keyT ↔ ∃ e ∈ l, (strKind P w).is k e.2 = true := by
  rw [List.mem_map]
  constructor
  · rintro ⟨e, he, q⟩
    exact ⟨e, he, (isT_key (g e he) k).2 q⟩
  · rintro ⟨e, he, q⟩
    exact ⟨e, he, (isT_key (g e he) k).1 q⟩
end
section
variable {P : Program} {w : World} {A : Around} {E : Value → Shared → Prop} {s : Shared} {a : Addr} {S : Str → Bool} {n : Nat}
theorem addT_tail {g : Bool → Sem Unit} (hg : ∀ (b : Bool) (s₁ : Shared) (Q' : Unit → Shared → Prop), Q' () s₁ → wpAny (model P w) A (g b) Q' E s₁)
    {o : Obj} {es : Array (Int × Value)} {ep : Nat} {t : SetTable} (ho : s.heap.get? a = some o) (hex : o.ExactSet) (hd : o.data = .set es ep t)
    {es1 : Array (Int × Value)} {t2 : SetTable} {S' : Str → Bool} (g1 : ∀ e ∈ es1.toList, GoodT w e) (nd1 : (es1.toList.map keyT).Nodup) (m1 : ∀ k, S' k = true ↔ k ∈ es1.toList.map keyT)
    (hb1 : es1.size < scanBound) (hf2 : t2.fits es1.size = true) (hr : Ris t2.place.toList) (hl : w.params.followText "set-order" = true ∨ t2.led = true) {wasDummy : Bool} {R : Option Bool → Shared → Prop}
    (hR : ∀ h', Heap.SameBut a s.heap h' → IsT w h' a S' es1.size → R (some true) { s with heap := h' }) :
    wpAny (model P w) A (do
        storeSet a es1 t2
        if (!wasDummy && t2.tooFull) = true then do
            g (relayAll t2 es1 (SetTable.grown es1.size)).2.2
            storeSet a (relayAll t2 es1 (SetTable.grown es1.size)).1 (relayAll t2 es1 (SetTable.grown es1.size)).2.1
            pure (some true)
          else pure (some true)) R E s := by
  refine wpAny_bind (wpAny_storeSet_of ho hd ?_ (fits_of_scanBound hb1))
  have ho1 := store_at (es' := es1) (t' := t2) ho hd
  have sb1 := Heap.SameBut.update s.heap a (Obj.putSet es1 t2)
  split
  · have pm := relayAll_perm t2 es1 (SetTable.grown es1.size)
    have hf3 := relayAll_fits t2 es1 (SetTable.grown es1.size)
    have hr3 := relayAll_ris t2 es1 (SetTable.grown es1.size)
    have hl3 := relayAll_led t2 es1 (SetTable.grown es1.size)
    generalize relayAll t2 es1 (SetTable.grown es1.size) = Z at pm hf3 hr3 hl3 ⊢
    obtain ⟨es2, t3, gave⟩ := Z
    dsimp only at pm hf3 hr3 hl3 ⊢
    have hsz : es2.size = es1.size := by rw [← Array.length_toList, pm.length_eq, Array.length_toList]
    have hb2 : es2.size < scanBound := by rw [hsz]; exact hb1
    refine wpAny_bind (hg _ _ _ ?_)
    refine wpAny_bind (wpAny_storeSet_of ho1 rfl ?_ (fits_of_scanBound hb2))
    have ho2 := store_at (es' := es2) (t' := t3) ho1 rfl
    refine wpAny_pure (hR _ (sb1.trans (Heap.SameBut.update _ a _)) ⟨_, es2, _, t3, ⟨ho2, hex, rfl, fun e he => g1 e (pm.mem_iff.mp he), (pm.map keyT).nodup_iff.mpr nd1, fun k => (m1 k).trans (pm.map keyT).mem_iff.symm, hb2, hf3, hr3, hl.imp id fun z => by rw [hl3]; exact z⟩, hsz⟩)
  · exact wpAny_pure (hR _ sb1 ⟨_, es1, _, t2, ⟨ho1, hex, rfl, g1, nd1, m1, hb1, hf2, hr, hl⟩, rfl⟩)
theorem addT {k : Str} {tk : Tok} {Q : Bool → Shared → Prop} (R : IsT w s.heap a S n) (room : n + 1 < scanBound)
    (hQ : ∀ h', Heap.SameBut a s.heap h' → IsT w h' a (fun j => S j || decide (j = k)) (if S k = true then n else n + 1) → Q (!S k) { s with heap := h' }) :
    wpAny (model P w) A (setAddHashed a (.str k tk) ((strKind P w).hash k)) Q E s := by
  obtain ⟨o, es, ep, t, ⟨ho, hex, hd, g, nd, hm, hb, hf, hr, hl⟩, hn⟩ := R
  have hkey : (strKind P w).is k (.str k tk) = true := strKind_is P w k tk
  have hsc : (Value.str k tk).scannable = true := rfl
  have hel : ElemsOf (strKind P w) es.toList := elemsT g
  unfold setAddHashed setAddHashedIn
  refine wpAny_holding (wpAny_bind (wpAny_setState_of ho hd hf ?_))
  dsimp only
  rw [byScan_of hsc hb hel]
  simp only [↓reduceIte]
  unfold setAddByScan
  refine wpAny_bind ?_
  refine wpAny_bind (wpAny_rule ?_)
  refine wpAny_bind (wpAny_setScan_of hkey ho hd hf hel ?_)
  cases hfi : List.findIdx? (fun e => (strKind P w).is k e.2) es.toList with
  | some j =>
    dsimp only
    obtain ⟨hj, pj, _⟩ := List.findIdx?_eq_some_iff_getElem.mp hfi
    have hSk : S k = true := (hm k).2 ((memT (P := P) (w := w) g k).2 ⟨es.toList[j], List.getElem_mem hj, pj⟩)
    refine wpAny_pure (wpAny_pure ?_)
    have q := hQ s.heap (Heap.SameBut.refl a s.heap) ⟨o, es, ep, t, ⟨ho, hex, hd, g, nd, fun i => by
      rw [Bool.or_eq_true, decide_eq_true_eq, ← hm i]
      exact ⟨fun z => z.elim id (fun e => e ▸ hSk), .inl⟩, hb, hf, hr, hl⟩, by rw [if_pos hSk]; exact hn⟩
    rw [hSk] at q
    exact q
  | none =>
    dsimp only
    have hnk : k ∉ es.toList.map keyT := fun z => by
      obtain ⟨e, he, q⟩ := (memT (P := P) (w := w) g k).1 z
      have c := List.findIdx?_eq_none_iff.mp hfi e he
      rw [q] at c
      cases c
    have hSk : S k = false := by
      cases q : S k with
      | false => rfl
      | true => exact absurd ((hm k).1 q) hnk
    have hgw : ∀ (b : Bool) {s₁ : Shared} {Q' : Unit → Shared → Prop}, Q' () s₁ → wpAny (model P w) A (match b with | true => rule "set.scan.the-table-gave-way" | false => pure ()) Q' E s₁ :=
      fun b s₁ Q' q => by cases b <;> first | exact wpAny_pure q | exact wpAny_rule q
    have pm := layNew_perm t es ((strKind P w).hash k) (.str k tk)
    have hf1 := layNew_fits t es ((strKind P w).hash k) (.str k tk)
    have hr1 := layNew_ris t es ((strKind P w).hash k) (.str k tk) hr
    have hl1 := layNew_led t es ((strKind P w).hash k) (.str k tk)
    generalize layNew t es ((strKind P w).hash k) (.str k tk) = Z at pm hf1 hr1 hl1 ⊢
    obtain ⟨es1, t1, wasDummy, gave⟩ := Z
    dsimp only at pm hf1 hr1 hl1 ⊢
    rw [Array.toList_push] at pm
    have pc : es1.toList.Perm (((strKind P w).hash k, Value.str k tk) :: es.toList) := pm.trans (List.perm_append_singleton _ _)
    have pk : (es1.toList.map keyT).Perm (k :: es.toList.map keyT) := pc.map keyT
    have g1 : ∀ e ∈ es1.toList, GoodT w e := fun e he => by
      rcases List.mem_cons.mp (pc.mem_iff.mp he) with z | z
      · rw [z]; exact ⟨k, tk, rfl, rfl⟩
      · exact g e z
    have nd1 : (es1.toList.map keyT).Nodup := pk.nodup_iff.mpr (List.nodup_cons.mpr ⟨hnk, nd⟩)
    have m1 : ∀ i, (S i || decide (i = k)) = true ↔ i ∈ es1.toList.map keyT := fun i => by
      rw [Bool.or_eq_true, decide_eq_true_eq, hm i, pk.mem_iff, List.mem_cons]
      exact Or.comm
    have hsz : es1.size = n + 1 := by rw [← Array.length_toList, pc.length_eq, List.length_cons, Array.length_toList, hn]
    have hb1 : es1.size < scanBound := by rw [hsz]; exact room
    have hled : w.params.followText "set-order" = true ∨ t1.led = true := hl.imp id fun z => by rw [hl1]; exact z
    have fin : ∀ h', Heap.SameBut a s.heap h' → IsT w h' a (fun j => S j || decide (j = k)) es1.size → Q true { s with heap := h' } := fun h' sb r => by
      have q := hQ h' sb
      rw [hSk] at q
      rw [hsz] at r
      exact q r
    refine wpAny_bind (hgw _ ?_)
    split
    · refine wpAny_bind ?_
      rw [hashByValue_scannable 8 hsc]
      refine wpAny_pure ?_
      refine addT_tail ?_ ho hex hd g1 nd1 m1 hb1 ?_ ?_ ?_ ?_
      · intro b s₁ Q' q; cases b <;> first | exact wpAny_pure q | exact wpAny_rule q
      · first | (split <;> first | exact hf1 | exact SetTable.fits_plain_off hf1) | exact hf1
      · first | (split <;> exact hr1) | exact hr1
      · first | (split <;> exact hled) | exact hled
      · intro h' sb r; dsimp only; exact wpAny_pure (fin h' sb r)
    · refine wpAny_bind (wpAny_pure ?_)
      simp only [↓reduceIte]
      refine addT_tail ?_ ho hex hd g1 nd1 m1 hb1 hf1 hr1 hled ?_
      · intro b s₁ Q' q; cases b <;> first | exact wpAny_pure q | exact wpAny_rule q
      · intro h' sb r; dsimp only; exact wpAny_pure (fin h' sb r)
end
end NVT

set_option Elab.async false
set_option linter.all false
set_option maxRecDepth 100000
set_option maxHeartbeats 8000000
/-! Core29: set(list of texts), walked and sorted. -/
namespace NVT
open PySem PySem.Spec PyProof PyProof.Rows L2
section
variable {P : Program} {w : World} {A : Around} {E : Value → Shared → Prop} {s : Shared}
def emT (w : World) : Obj := { cls := .type "set", dict := none, data := .set #[] 0 (.fresh 0 0 (!w.params.followText "set-order")) }
theorem newT {h : Heap} {a : Addr} {xs : List Str} (ho : h.get? a = some { cls := .type "set", dict := none, data := .set #[] 0 (.fresh 0 0 (!w.params.followText "set-order")) }) : IsT w h a (fun j => decide (j ∈ xs.take 0)) 0 :=
  ⟨_, #[], 0, _, ⟨ho, ⟨rfl, rfl, rfl⟩, rfl, (fun e he => by simp at he), (by simp), (fun k => by simp), (by decide), (by rfl), List.Pairwise.nil, by
    show _ ∨ (!w.params.followText "set-order") = true
    cases w.params.followText "set-order"
    · exact .inr rfl
    · exact .inl rfl⟩, rfl⟩
theorem updT {I : Addr} {fp wr : List Addr} {G : Array GenState → Array GenState → Prop} {n : Nat} {Pv : Nat → Value → Prop} {St : Nat → Shared → Prop} {R : Result → Shared → Prop}
    (W : WalksS P w A.in1 I fp wr G n Pv St) (S : Addr) (hSf : S ∉ fp) (xs : List Str) (hn : n = xs.length) (hb : xs.length + 1 < scanBound) (hval : ∀ i v, Pv i v → ∃ k t, xs[i]? = some k ∧ v = .str k t) :
    ∀ (k i : Nat) (s : Shared), n - i = k → i ≤ n → St i s → (∃ c, c ≤ i ∧ IsT w s.heap S (fun j => decide (j ∈ xs.take i)) c) →
      (∀ s' c, Moved (S :: wr) G s s' → c ≤ n → IsT w s'.heap S (fun j => decide (j ∈ xs)) c → R (.ok (.ret .none)) s') →
      codeAny (model P w) A (.builtin "set.update.loop" ⟨[.ref S, .ref I], []⟩) R s := by
  have hSw : S ∉ wr := fun h => hSf (W.sub _ h)
  have hsub : ∀ b ∈ wr, b ∈ S :: wr := fun b hb => List.mem_cons_of_mem _ hb
  intro k
  induction k with
  | zero =>
    intro i s hk' hi hst ⟨c, hc, hS⟩ hR
    have hin : i = n := by omega
    subst hin
    refine codeAny_builtin F.entry_set_update_loop ?_
    rw [Around.under_plainId F.plain_set_update_loop _]
    show wpAny _ A.in1 (pyNext (.ref I) >>= _) _ _ s
    refine wpAny_bind (W.done s _ _ hst fun s' hm => ?_)
    show wpAny _ A.in1 (ret Value.none) _ _ s'
    have e : xs.take i = xs := List.take_of_length_le (by omega)
    rw [e] at hS
    exact wpAny_pure (hR s' c (hm.mono hsub) hc (hS.keep fun o e => hm.heap S o hSw e))
  | succ k ih =>
    intro i s hk' hi hst ⟨c, hc, hS⟩ hR
    have hlt : i < n := by omega
    refine codeAny_builtin F.entry_set_update_loop ?_
    rw [Around.under_plainId F.plain_set_update_loop _]
    show wpAny _ A.in1 (pyNext (.ref I) >>= _) _ _ s
    refine wpAny_bind (W.item i s _ _ hlt hst fun v s' hP hst' hm => ?_)
    obtain ⟨z, t, hz, rfl⟩ := hval i v hP
    have hS' : IsT w s'.heap S (fun j => decide (j ∈ xs.take i)) c := hS.keep fun o e => hm.heap S o hSw e
    show wpAny _ A.in1 (holding [Value.str z t] (setAdd S (.str z t)) >>= _) _ _ s'
    refine wpAny_bind (wpAny_holding ?_)
    unfold setAdd
    refine wpAny_holding ?_
    refine wpAny_bind ((strKind P w).pyHash (k := z) (strKind_is _ _ _ _) ?_)
    refine addT (s := { s' with toks := s'.toks + 1 }) hS' (by omega) fun h' hsb hS2 => ?_
    have hS3 : IsT w h' S (fun j => decide (j ∈ xs.take (i + 1))) (if decide (z ∈ xs.take i) = true then c else c + 1) := hS2.congr fun j => by
      rw [List.take_add_one, hz]
      simp [List.mem_append]
    have hc3 : (if decide (z ∈ xs.take i) = true then c else c + 1) ≤ i + 1 := by
      split <;> omega
    refine wpAny_pure ⟨plainId_quiet F.plain_set_update_loop _, ih (i + 1) _ (by omega) hlt (W.frame _ s' _ _ hst' (Nat.le_succ _) fun b hb o e => ?_) ⟨_, hc3, hS3⟩ fun s'' c2 hm'' hc'' hS'' => ?_⟩
    · rw [hsb.2 b (fun h : b = S => hSf (by rw [← h]; exact hb))]; exact e
    · refine hR s'' c2 (Moved.trans W.gtrans ((hm.mono hsub).then_heap (Nat.le_succ _) fun b o hb e => ?_) hm'') hc'' hS''
      rw [hsb.2 b (fun h : b = S => hb (by rw [h]; exact List.mem_cons_self))]; exact e
theorem setT_list {src : Addr} {arr : Array Value} {xs : List Str} {R : Value → Shared → Prop} (calm : A.handled = none) (isSrc : s.heap.IsList src arr) (sz : arr.size = xs.length)
    (vals : ∀ (i : Nat) (u : Value), arr[i]? = some u → ∃ x t, xs[i]? = some x ∧ u = .str x t) (few : xs.length + 1 < scanBound)
    (done : ∀ (g : Heap) (k c : Nat), IsT w g s.heap.objs.size (fun y => decide (y ∈ xs)) c → c ≤ xs.length →
      (∀ b ob, s.heap.get? b = some ob → g.get? b = some ob) → R (.ref s.heap.objs.size) { s with heap := g, toks := k }) :
    wpAny (model P w) A (call (.type "set") [.ref src]) R E s := by
  obtain ⟨m1, m2, m3⟩ := F.called_set.mro
  have m4 := F.called_set.made
  have m5 := F.called_set.sub
  refine wpAny_call (codeAny_of_tree ?_)
  show wpAny _ _ (callAny (.type "set") _) _ _ _
  refine wpAny_pure ⟨Code.quiet_builtin _ (by decide +kernel), codeAny_builtin F.entry_type_call ?_⟩
  rw [Around.under_plain (weight_type_call_type "set" [.ref src] []) rfl]
  have m6 := F.called_set.notType
  have m7 := F.called_set.canCreate
  have m8 := F.typeCall_set_1 (.ref src)
  repeat (any_goals (first | assumption | wp_step))
  refine codeAny_mono (code_set_led1 (.ref src) (E := E) (Q₁ := fun obj s₁ => obj = .ref s.heap.objs.size ∧ s₁ = { s with heap := s.heap.push (emT w) }) ⟨rfl, rfl⟩) fun z st1 hz => ?_
  cases z with
  | error e => exact hz
  | ok fl =>
    cases fl with
    | ret ob =>
      obtain ⟨rfl, rfl⟩ := hz
      have at1 : (s.heap.push (emT w)).get? s.heap.objs.size = some (emT w) := Heap.get?_push_size _ rfl
      have ty1 : Shared.TypeIs { s with heap := s.heap.push (emT w) } (.ref s.heap.objs.size) "set" := ⟨_, at1, rfl⟩
      have m9 := F.called_set.init.lookup
      have m10 := F.called_set.init.bind (.ref s.heap.objs.size)
      repeat (any_goals (first | assumption | wp_step))
      refine codeAny_mono (codeAny_call_builtin (R := wants (fun z st2 => z = .none ∧ ∃ g k c, st2 = { s with heap := g, toks := k } ∧ IsT w g s.heap.objs.size (fun y => decide (y ∈ xs)) c ∧ c ≤ xs.length ∧
          (∀ b ob, s.heap.get? b = some ob → g.get? b = some ob)) E) F.called_set.init.plain F.entry_set_init (check_set_init_1 ty1 ?_)) fun z2 st2 hz2 => ?_
      · obtain ⟨os, hos, cs, ns, ds⟩ := isSrc
        obtain ⟨q1, q2, q3, q4⟩ := os
        simp only at cs ds
        subst cs; subst ds
        have at2 : (s.heap.push (emT w)).get? src = some { cls := .type "list", dict := q2, data := .seq arr ns, slots := q4 } := Heap.get?_push_of_some _ hos
        have m11 := F.sub_list_set
        have m12 := F.sub_list_frozenset
        have m13 : (Value.type "list" == Value.type "dict") = false := by decide
        have is2 : (s.heap.push (emT w)).IsList src arr := ⟨_, at2, rfl, ns, rfl⟩
        unfold Builtin.«set.__init__» noKeywords Builtin.Frozenset.updateFrom
        generalize hPI : pyIter = PI
        wp_walk
        subst hPI
        refine wpAny_pyIter_list is2 ?_
        refine wpAny_bind (wpAny_runValue ?_)
        have lt : src < s.heap.objs.size := Heap.lt_size hos
        have c3 : A.in1.in1.in1.handled = none := by simp [calm]
        have ne1 : src ≠ (s.heap.push (emT w)).objs.size := by
          rw [Heap.size_push]; exact Nat.ne_of_lt (Nat.lt_succ_of_lt lt)
        have ne2 : s.heap.objs.size ∉ [(s.heap.push (emT w)).objs.size, src] := by
          rw [Heap.size_push]; simp only [List.mem_cons, List.mem_singleton, List.not_mem_nil, or_false, not_or]
          exact ⟨Nat.ne_of_lt (Nat.lt_succ_self _), Nat.ne_of_gt lt⟩
        refine updT (n := arr.size) ((Walks.list c3 _ src ne1 arr).toS) s.heap.objs.size ne2 xs sz (by omega) vals (arr.size - 0) 0 _ (by omega) (Nat.zero_le _) ⟨⟨_, Heap.get?_push_size _ rfl, rfl, rfl⟩, (is2.push _)⟩ ?start ?stop
        case start =>
          have at3 : ((s.heap.push (emT w)).push { cls := .type "list_iterator", data := .fields #[.ref src, .int 0 0] }).get? s.heap.objs.size = some (emT w) := Heap.get?_push_of_some _ at1
          exact ⟨0, Nat.le_refl 0, newT at3⟩
        case stop =>
          intro st3 c mv hc hS
          obtain ⟨g, g2, d2, k2, o2⟩ := st3
          have e1 : g2 = s.gens := mv.gens
          have e2 : d2 = s.drawn := mv.drawn
          have e3 : o2 = s.os := mv.os
          subst e1; subst e2; subst e3
          show wpAny _ _ _ _ _ _
          refine wpAny_pure ?_
          show wpAny _ _ (ret Value.none) _ _ _
          rw [sz] at hc
          refine wpAny_pure ⟨rfl, g, k2, c, rfl, hS, hc, fun b ob e => ?_⟩
          have hb := Heap.lt_size e
          have n1 : b ≠ s.heap.objs.size := Nat.ne_of_lt hb
          have n2 : b ≠ (s.heap.push (emT w)).objs.size := by
            rw [Heap.size_push]; exact Nat.ne_of_lt (Nat.lt_succ_of_lt hb)
          exact mv.heap b ob (by simp only [List.mem_cons, List.mem_singleton, List.not_mem_nil, or_false, not_or]; exact ⟨n1, n2⟩) (Heap.get?_push_of_some _ (Heap.get?_push_of_some _ e))
      · cases z2 with
        | error e => exact hz2
        | ok fl2 =>
          cases fl2 with
          | ret z3 =>
            obtain ⟨rfl, g, k, c, rfl, hS, hc, hk⟩ := hz2
            repeat (any_goals (first | assumption | wp_step))
            exact done _ _ _ hS hc hk
          | _ => exact hz2.elim
    | _ => exact hz.elim
/-- sorted(set) -/
theorem sortedT {a : Addr} {S : Str → Bool} {n : Nat} {Q : Value → Shared → Prop} (R : IsT w s.heap a S n) (hh : A.handled = none) (h64 : n < 64)
    (hQ : ∀ s' p (out : Array Value) (c : Nat) (ss : List Str), (∀ b o, s.heap.get? b = some o → s'.heap.get? b = some o) → s'.gens = s.gens → s'.os = s.os → s.heap.objs.size ≤ p →
      s'.heap.get? p = some (seqObj "list" out c) → StrsAre out.toList ss → sortedS ss = true → ss.Nodup → (∀ k, k ∈ ss ↔ S k = true) → ss.length = n → Q (.ref p) s') :
    wpAny (model P w) A (call (.builtin "sorted") [.ref a]) Q E s := by
  obtain ⟨o, es, ep, t, ⟨ho, hex, hd, g, nd, hm, hb, hf, hr, hl⟩, hn⟩ := R
  refine Calls.call_function_entry kind_sorted plain_sorted entry_sorted (args_sorted1 _) ?_
  unfold Builtin.«sorted»
  refine wpAny_bind (m := checkCount "sorted" 1 1 _) (wpAny_pure ?_)
  refine wpAny_bind (collect_set (A := A.in1) hh ⟨o, ho, hex.1, hd⟩ hf hb hr hl fun s1 vs k1 hz g1 o1 pm => ?_)
  have hvl : vs.length = n := by rw [pm.length_eq, List.length_map, Array.length_toList]; exact hn
  have hI : StrsAre vs (vs.map strOf) := strsAre_map vs fun v hv => by
    obtain ⟨e, he, q⟩ := List.mem_map.mp (pm.mem_iff.mp hv)
    obtain ⟨x, tk, h1, _⟩ := g e he
    exact ⟨x, tk, by rw [← q]; exact h1⟩
  have pk : (vs.map strOf).Perm (es.toList.map keyT) := by
    have q := pm.map strOf
    rw [List.map_map] at q
    exact q
  refine wpAny_bind (wpAny_newList ?_ (by rw [hvl, sizeLine_eq]; omega))
  have hoL : (s1.heap.push (seqObj "list" vs.toArray 0)).get? s1.heap.objs.size = some (seqObj "list" vs.toArray 0) := Heap.get?_push_size _ rfl
  refine wpAny_bind (wpAny_holding (wpAny_call_entry slot_list_sort ⟨_, hoL, rfl⟩ entry_list_sort (list_sort_treeK strKind_oneLt hoL hI.keysOf (fun v₁ v₂ rest e => keyKind_strs (by rw [← e]; exact hI)) (by rw [hvl]; exact h64) fun st' hp hs => ⟨_, rfl, ?_⟩) (args_list_sort _)))
  obtain ⟨ss, a1, a2, a3⟩ := sorted_out_str hI hp hs
  obtain ⟨c, hc⟩ := sortedHeap_at (vs := vs) (out := (arrOf st').map (·.2)) hoL
  have pn : ss.Perm (es.toList.map keyT) := a2.trans pk
  refine wpAny_pure ⟨_, rfl, hQ _ s1.heap.objs.size _ c ss (fun b u e => ?_) g1 o1 hz hc a1 a3 (pn.nodup_iff.mpr nd) (fun k => by rw [pn.mem_iff, ← hm k]) ?_⟩
  · have q := k1 b u e
    have hlt := Heap.lt_size q
    show (sortedHeap (s1.heap.push (seqObj "list" vs.toArray 0)) s1.heap.objs.size vs _).get? b = some u
    rw [sortedHeap_old (Nat.ne_of_lt hlt) (by rw [size_push']; exact Nat.lt_succ_of_lt hlt)]
    exact Heap.get?_push_of_some _ q
  · rw [pn.length_eq, List.length_map, Array.length_toList]; exact hn
end
end NVT

set_option Elab.async false
set_option linter.all false
set_option maxRecDepth 100000
set_option maxHeartbeats 4000000
/-! Core30: sorted(set(list of texts)) as a function, xs.extend(list), xs.pop(i). -/
namespace NV
open PySem PySem.Spec PyProof.Rows L2
theorem perm_ofK : ∀ {l m : List Str}, l.Nodup → m.Nodup → (∀ x, x ∈ l ↔ x ∈ m) → l.Perm m
  | [], [], _, _, _ => .nil
  | [], y :: m, _, _, h => by cases (h y).mpr List.mem_cons_self
  | x :: l, m, h1, h2, h => by
    have h1 := List.nodup_cons.mp h1
    have hx : x ∈ m := (h x).mp List.mem_cons_self
    refine ((perm_ofK h1.2 (h2.erase x) fun y => ?_).cons x).trans (List.perm_cons_erase hx).symm
    rw [List.Nodup.mem_erase_iff h2]
    constructor
    · intro hy
      exact ⟨fun e => h1.1 (by rw [← e]; exact hy), (h y).mp (List.mem_cons_of_mem _ hy)⟩
    · intro ⟨hn, hy⟩
      rcases List.mem_cons.mp ((h y).mpr hy) with e | e
      · exact absurd e hn
      · exact e
theorem stepS_nodupK {acc : List Str} (x : Str) (h : acc.Nodup) : (NVS.stepS acc x).Nodup := by
  unfold NVS.stepS
  split
  · exact h
  · rename_i hn
    rw [List.nodup_append]
    exact ⟨h, by simp, fun a ha b hb e => hn (by rw [List.mem_singleton.mp hb] at e; rw [← e]; exact ha)⟩
theorem foldS_nodupK : ∀ (xs acc : List Str), acc.Nodup → (xs.foldl NVS.stepS acc).Nodup ∧ ∀ y, y ∈ xs.foldl NVS.stepS acc ↔ y ∈ acc ∨ y ∈ xs
  | [], acc, h => ⟨h, fun y => by simp⟩
  | x :: xs, acc, h => by
    obtain ⟨h1, h2⟩ := foldS_nodupK xs (NVS.stepS acc x) (stepS_nodupK x h)
    refine ⟨h1, fun y => ?_⟩
    rw [List.foldl_cons, h2 y, NVS.stepS_mem, List.mem_cons]
    constructor
    · rintro ((a | a) | a)
      · exact .inl a
      · exact .inr (.inl a)
      · exact .inr (.inr a)
    · rintro (a | a | a)
      · exact .inl (.inl a)
      · exact .inl (.inr a)
      · exact .inr a
theorem dd_nodupK (xs : List Str) : (NVS.dd xs).Nodup := (foldS_nodupK xs [] .nil).1
theorem dd_memK (xs : List Str) (y : Str) : y ∈ NVS.dd xs ↔ y ∈ xs := by
  have := (foldS_nodupK xs [] .nil).2 y
  simp only [List.not_mem_nil, false_or] at this
  exact this
section
variable {X : Cx} {W : WX} {a : Expr} {p p2 q pos apos cpos : Pos}
def tSortT (K : PySem.W.Frag) (ta : TE) : TE := fun σ H Q => ta σ H fun x H1 => ∃ (l : Addr) (xs : List Str), x = .ref l ∧ SqL K H1 l (xs.map V.str) ∧ xs.length < 64 ∧ ∀ p, H1 p = none → Q (.ref p) (upd H1 p (.lst ((sortW (NVS.dd xs)).map V.str)))
theorem pe_sortT {ta : TE} (hc : X.calm = true) (hg : Gl X "sorted") (hm : X.mg "sorted" = none) (hg2 : Gl X "set") (hm2 : X.mg "set" = none) (hv : bootBuiltins "sorted" = some (.builtin "sorted")) (ha : PE X a ta)
    (na : starEach [a] X.env = (false, eval a X.env) :: starEach [] X.env := by rfl) : PE X (.Call (.Name "sorted" p) [.Call (.Name "set" p2) [a] [] q] [] pos) (tSortT X.K ta) := by
  refine ⟨fun pins s σ H Q I h => ?_⟩
  refine Call_ (ld_blt I hg hm hv (PyProof.Rows.callWith_builtin1 (PyProof.Rows.args_cons ?_ rfl) rfl rfl))
  refine Call_ (ld_blt I hg2 hm2 PyProof.Rows.boot_set (PyProof.Rows.callWith_type1 (PyProof.Rows.args_cons (thn (ha.run pins s σ H _ I h) fun v s1 ⟨x, H1, I1, r1, q1⟩ => PyProof.Rows.args_nil ?_) na) na rfl))
  obtain ⟨l, xs, rfl, hq, few, q1⟩ := q1
  cases r1
  obtain ⟨its, r, pl, hz⟩ := I1.list hq
  have hst := r.strs
  have hsl : its.length = xs.length := by
    have := r.length
    rw [List.length_map] at this
    exact this.symm
  refine NVT.setT_list (xs := xs) (I1.ok.hd hc) pl.isList (by rw [List.size_toArray]; exact hsl) (fun i u hu => ?_) (by unfold scanBound; omega) fun g k c R hc' hk => PyProof.Rows.args_nil ?_
  · have hi : i < xs.length := by
      rw [← hsl]
      have := (Array.getElem?_eq_some_iff.mp hu).1
      rw [List.size_toArray] at this
      exact this
    obtain ⟨w, hw, rw'⟩ := r.get (i := i) (x := V.str xs[i]) (by rw [List.getElem?_map, List.getElem?_eq_getElem hi]; rfl)
    obtain ⟨t, et⟩ := rw'
    refine ⟨xs[i], t, List.getElem?_eq_getElem hi, ?_⟩
    rw [List.getElem?_toArray] at hu
    rw [hw] at hu
    rw [← et]
    exact (Option.some.inj hu).symm
  · have I2 : Inv X pins σ H1 { s1 with heap := g, toks := k } := I1.kept hk
    refine NVT.sortedT R (I1.ok.hd hc) (by omega) fun s' p out c2 ss kp gg o hp hat hS hso hnd hmem hl => ?_
    have em : ss = sortW (NVS.dd xs) := sortW_unique (perm_ofK hnd (dd_nodupK xs) fun z => by
      rw [hmem z, dd_memK]
      exact decide_eq_true_iff) (sortedS_pw hso)
    subst em
    have hlen : ((sortW (NVS.dd xs)).map V.str).length ≤ sizeLine := by rw [List.length_map, hl, sizeLine_eq]; omega
    have hn : H1 p = none := I2.hok.fresh hp
    generalize hs2 : ({ s1 with heap := g, toks := k } : Shared) = s2 at *
    have J : Inv X pins σ (upd H1 p (.lst ((sortW (NVS.dd xs)).map V.str))) { s2 with heap := s'.heap, gens := s'.gens, drawn := s'.drawn, toks := s'.toks } :=
      I2.call (ch := []) (Un.laid kp hp hn) (I2.hok.laid kp hp ⟨hlen, out.toList, c2, vals_of_strs hS, hat⟩) (by rw [gg]; exact I2.bare) (fun _ z => nomatch z)
    have e : s' = { s2 with heap := s'.heap, gens := s'.gens, drawn := s'.drawn, toks := s'.toks } := by
      cases s'
      cases s2
      cases o
      rfl
    rw [e]
    exact ⟨.ref p, _, J, rfl, q1 p hn⟩
def eSortT (m : RM) : EM := fun ρ => (m ρ).bind fun x ρ1 => (ofO (x.get ρ1) ρ1).bind fun d _ => match d with
  | .lst ds => (ofO (strsOf ds) ρ1).bind fun ss _ => if ss.length < 64 then .ok (.lst ((sortW (NVS.dd ss)).map D.str)) ρ1 else .bad
  | _ => .bad
theorem df_sortT {m : RM} (c : Cd X) (hg : Gl X "sorted") (hm : X.mg "sorted" = none) (hg2 : Gl X "set") (hm2 : X.mg "set" = none) (hv : bootBuiltins "sorted" = some (.builtin "sorted")) (h : DR X W a m) (na : starEach [a] X.env = (false, eval a X.env) :: starEach [] X.env := by rfl) : DF X W (.Call (.Name "sorted" p) [.Call (.Name "set" p2) [a] [] q] [] pos) (eSortT m) := by
  obtain ⟨t, pt, s⟩ := h
  refine ⟨_, pe_sortT c.calm hg hm hg2 hm2 hv pt na, fun B M H ρ σ Q rp k => s B M H ρ σ _ rp (Post.seq k fun x ρ1 M1 H1 v x1 r1 q1 k1 => ?_)⟩
  cases ex : x.get ρ1 with
  | none => rw [ex] at k1; exact k1.elim
  | some d =>
    rw [ex] at k1
    simp only [ofO, Res.bind] at k1
    have rq := q1.rq Ext.refl r1 ex
    cases d with
    | lst ds =>
      simp only at k1
      obtain ⟨a0, vs, rfl, l, h1, h2⟩ := rq_lst rq
      cases e : strsOf ds with
      | none => rw [e] at k1; exact k1.elim
      | some ss =>
        rw [e] at k1
        simp only [ofO, Res.bind] at k1
        split at k1
        · rename_i hl
          obtain ⟨ev, ed, hg'⟩ := strs_rpl e h2
          subst ev
          have dl := NVS.dd_len ss
          exact ⟨a0, ss, rfl, SqL.of h1, hl, fun p hp => post_o k1 r1 (rpl_strs fun x hx => hg' x ((dd_memK ss x).mp ((sortW_perm _).mem_iff.mp hx))) (by rw [List.length_map, (sortW_perm _).length_eq, sizeLine_eq]; omega) hp⟩
        · exact k1.elim
    | _ => exact k1.elim
/-! ### xs.extend(list), xs.pop(i) -/
def extD (d : D) (xs : List D) : Option (D × D) := match d, xs with
  | .lst ds, [.lst zs] => if ds.length + zs.length ≤ sizeLine then some (.lst (ds ++ zs), .non) else none
  | _, _ => none
theorem m_extendD : MutE X extD rExtend := by
  intro M H a d d' z ds xs Q w r hf k
  unfold extD at hf
  split at hf
  · split at hf
    · rename_i ds0 zs hl
      cases hf
      obtain ⟨m, l, vs, e, q⟩ := w
      cases r with
      | cons r1 r2 =>
        cases r2
        cases r1 with
        | lst l2 n2 h2 q2 =>
          rename_i b vs2
          have hx : Ext M H M (upd H a (.lst (vs ++ vs2))) := Ext.write m e fun z => z
          exact ⟨a, b, vs, vs2, rfl, rfl, e, h2, by rw [← q.length, ← q2.length]; exact hl, k _ _ ⟨m, by rw [List.length_append]; exact hl, _, upd_same, RpL.ext hx (q.append q2)⟩ fun _ _ => .non⟩
    · cases hf
  · cases hf
def popD (d : D) (xs : List D) : Option (D × D) := match d, xs with
  | .lst ds, [.int i] => if 0 ≤ i ∧ i < 2 ^ 63 then (ds[i.toNat]?).map fun z => (.lst (ds.eraseIdx i.toNat), z) else none
  | _, _ => none
theorem m_popAt : MutE X popD rPopAt := by
  intro M H a d d' z ds xs Q w r hf k
  unfold popD at hf
  split at hf
  · split at hf
    · rename_i ds0 i hl
      obtain ⟨m, l, vs, e, q⟩ := w
      cases eg : ds0[i.toNat]? with
      | none => rw [eg] at hf; cases hf
      | some y =>
        rw [eg] at hf
        cases hf
        cases r with
        | cons r1 r2 =>
          cases r2
          cases r1
          obtain ⟨v, ev, rv⟩ := RpL.get q eg
          have hlt : i.toNat < ds0.length := (List.getElem?_eq_some_iff.mp eg).1
          have hlv : i.toNat < vs.length := by rw [← q.length]; exact hlt
          have i0 := hl.1
          have hx : Ext M H M (upd H a (.lst (vs.eraseIdx i.toNat))) := Ext.write m e fun z => z
          refine ⟨a, vs, i, i.toNat, v, rfl, rfl, e, by omega, hl.2, ?_, ev, k _ _ ⟨m, ?_, _, upd_same, RpL.ext hx (RpL.eraseIdx _ q)⟩ fun H' x' => Rp.ext x' rv⟩
          · unfold seqIndex?
            have h2 : (if i < 0 then i + (vs.length : Int) else i) = i := if_neg (by omega)
            simp only [h2]
            have h1 : (decide (0 ≤ i) && decide (i < (vs.length : Int))) = true := by
              rw [decide_eq_true i0, decide_eq_true (by omega : i < (vs.length : Int))]; rfl
            rw [if_pos h1]
          · rw [List.length_eraseIdx, if_pos hlt]
            omega
    · cases hf
  · cases hf
end
end NV

set_option Elab.async false
set_option linter.all false
set_option maxRecDepth 100000
set_option maxHeartbeats 4000000
/-! Core31: text * number. -/
namespace NV
open PySem PySem.Spec PyProof.Rows L2
def mul4 (d e : D) : Option D := match d, e with
  | .str x, .int n => if 0 ≤ n ∧ n ≤ 1000 ∧ x.length ≤ 1000 ∧ strGb (Txt.mul x n) = true then some (.str (Txt.mul x n)) else none
  | d, e => mulD d e
def rMulS : R2 := fun x y H Q => ∃ a n, x = V.str a ∧ y = V.int n ∧ MulOk a n ∧ Q (.str (Txt.mul a n)) H
theorem op_mulS {X : Cx} : OpR X (binaryOp .Mult) rMulS := by
  intro pins s σ H x y v u Q I rx ry h
  obtain ⟨a, n, rfl, rfl, hok, q⟩ := h
  obtain ⟨t, rfl⟩ := rx
  obtain ⟨t2, rfl⟩ := ry
  exact PySem.SB.mul hok fun t' k => ⟨.str (Txt.mul a n), H, I.tok k, ⟨t', rfl⟩, q⟩
def rMul4 : R2 := fun x y H Q => rMul2 x y H Q ∨ rMulS x y H Q
theorem op_mul4 {X : Cx} : OpR X (binaryOp .Mult) rMul4 := op_mul2.or op_mulS
theorem o_mul4 {X : Cx} : OpE X mul4 rMul4 := by
  intro B W M H ρ σ d e z x y Q rp hx hy hf h
  unfold mul4 at hf
  split at hf
  · split at hf
    · rename_i a n hc
      cases hf
      obtain ⟨rfl, g⟩ := rq_str hx
      obtain rfl := rq_int hy
      exact .inr ⟨a, n, rfl, rfl, mulOk_of 1000 1000 hc.2.2.1 (by omega) (by omega) (by decide) (by decide), post_v h rp (.str (strGb_ok hc.2.2.2))⟩
    · cases hf
  · exact .inl (o_mul B W M H ρ σ d e z x y Q rp hx hy hf h)
end NV

set_option Elab.async false
set_option linter.all false
set_option maxRecDepth 100000
set_option maxHeartbeats 4000000
/-! Ev: reckoning with the plain functions. -/
namespace NV
open PySem PySem.Spec PyProof.Rows L2
section
variable {α β : Type}
@[simp] theorem bind_ok' (a : α) (ρ : Env) (f : α → Env → Res β) : (Res.ok a ρ).bind f = f a ρ := rfl
@[simp] theorem bind_exc' (x : Exn) (ρ : Env) (f : α → Env → Res β) : (Res.exc x ρ).bind f = .exc x ρ := rfl
@[simp] theorem bind_bad' (f : α → Env → Res β) : (Res.bad).bind f = .bad := rfl
@[simp] theorem out_ok' (a : α) (ρ : Env) (f : α → Env → Out) : (Res.ok a ρ).out f = f a ρ := rfl
@[simp] theorem out_exc' (x : Exn) (ρ : Env) (f : α → Env → Out) : (Res.exc x ρ : Res α).out f = .exc x ρ := rfl
@[simp] theorem out_bad' (f : α → Env → Out) : (Res.bad : Res α).out f = .bad := rfl
@[simp] theorem ofO_some' (a : α) (ρ : Env) : ofO (some a) ρ = .ok a ρ := rfl
@[simp] theorem ofO_none' (ρ : Env) : ofO (none : Option α) ρ = .bad := rfl
@[simp] theorem noexc_ok (a : α) (ρ : Env) : (Res.ok a ρ).noexc = .ok a ρ := rfl
end
@[simp] theorem oseq_nx (ρ : Env) (f : SM) : (Out.nx ρ).seq f = f ρ := rfl
@[simp] theorem oseq_rt (d : D) (ρ : Env) (f : SM) : (Out.rt d ρ).seq f = .rt d ρ := rfl
@[simp] theorem oseq_rtF (d : D) (ρ : Env) (f : SM) : (Out.rtF d ρ).seq f = .rtF d ρ := rfl
@[simp] theorem oseq_bk (ρ : Env) (f : SM) : (Out.bk ρ).seq f = .bk ρ := rfl
@[simp] theorem oseq_ct (ρ : Env) (f : SM) : (Out.ct ρ).seq f = .ct ρ := rfl
@[simp] theorem oseq_exc (x : Exn) (ρ : Env) (f : SM) : (Out.exc x ρ).seq f = .exc x ρ := rfl
@[simp] theorem sSeq_eq (a b : SM) (ρ : Env) : sSeq a b ρ = (a ρ).seq b := rfl
@[simp] theorem sNil_eq (ρ : Env) : sNil ρ = .nx ρ := rfl
@[simp] theorem sSet_eq (i : Nat) (m : EM) (ρ : Env) : sSet i m ρ = (m ρ).out fun d ρ1 => .nx (ρ1.set i (.v d)) := rfl
@[simp] theorem sParE_eq (i j : Nat) (m : EM) (d : D) (ρ : Env) : sParE i j m d ρ = (m ρ).out fun x ρ1 => .nx ((ρ1.set i (.v x)).set j (.o d)) := rfl
@[simp] theorem sParE3_eq (i j l : Nat) (m : EM) (d e : D) (ρ : Env) : sParE3 i j l m d e ρ = (m ρ).out fun x ρ1 => .nx (((ρ1.set i (.v x)).set j (.o d)).set l (.o e)) := rfl
@[simp] theorem sSetO_eq (i : Nat) (m : EM) (ρ : Env) : sSetO i m ρ = (m ρ).out fun d ρ1 => .nx (ρ1.set i (.o d)) := rfl
@[simp] theorem sRet_eq (m : EM) (ρ : Env) : sRet m ρ = (m ρ).out fun d ρ1 => .rt d ρ1 := rfl
@[simp] theorem sRetF_eq (m : EM) (ρ : Env) : sRetF m ρ = (m ρ).out fun d ρ1 => .rtF d ρ1 := rfl
@[simp] theorem sRetN_eq (ρ : Env) : sRetN ρ = .rt .non ρ := rfl
@[simp] theorem sIf_eq (c : TM) (a b : SM) (ρ : Env) : sIf c a b ρ = (c ρ).out fun k ρ1 => if k then a ρ1 else b ρ1 := rfl
@[simp] theorem sDrop_eq (m : EM) (ρ : Env) : sDrop m ρ = (m ρ).out fun _ ρ1 => .nx ρ1 := rfl
@[simp] theorem sFor_eq (mi : Env → Res (List D)) (g : D → Env → Option Env) (b : SM) (ρ : Env) : sFor mi g b ρ = (mi ρ).out fun ds ρ1 => forL g b ds ρ1 := rfl
@[simp] theorem eVar_eq (i : Nat) (ρ : Env) : eVar i ρ = match ρ[i]? with
  | some (.v d) => .ok d ρ
  | _ => .bad := rfl
@[simp] theorem rVar_eq (i : Nat) (ρ : Env) : rVar i ρ = match ρ[i]? with
  | some (.v d) => .ok (.val d) ρ
  | some (.o _) => .ok (.own i) ρ
  | some (.p _) => .ok (.own i) ρ
  | _ => .bad := rfl
@[simp] theorem rOf_eq (m : EM) (ρ : Env) : rOf m ρ = (m ρ).bind fun d ρ' => .ok (.val d) ρ' := rfl
@[simp] theorem eC_eq (d : D) (ρ : Env) : eC d ρ = .ok d ρ := rfl
@[simp] theorem get_val (d : D) (ρ : Env) : (RV.val d).get ρ = some d := rfl
@[simp] theorem get_own (i : Nat) (ρ : Env) : (RV.own i).get ρ = match ρ[i]? with
  | some (.o d) => some d
  | some (.p d) => some d
  | _ => none := rfl
@[simp] theorem eOp2_eq (f : D → D → Option D) (ma mb : RM) (ρ : Env) : eOp2 f ma mb ρ = (ma ρ).bind fun x ρ1 => (mb ρ1).bind fun y ρ2 => (ofO (x.get ρ2) ρ2).bind fun d _ => (ofO (y.get ρ2) ρ2).bind fun e _ => ofO (f d e) ρ2 := rfl
@[simp] theorem eChain_eq (f g : D → D → Option D) (ma mb mc : RM) (ρ : Env) : eChain f g ma mb mc ρ = (ma ρ).bind fun x ρ1 => (mb ρ1).bind fun y ρ2 => (ofO (x.get ρ2) ρ2).bind fun d _ => (ofO (y.get ρ2) ρ2).bind fun e _ =>
  (ofO (f d e) ρ2).bind fun z _ => (asB z ρ2).bind fun k _ => if k then (mc ρ2).bind fun w ρ3 => (ofO (y.get ρ3) ρ3).bind fun e' _ => (ofO (w.get ρ3) ρ3).bind fun h _ => ofO (g e' h) ρ3 else .ok (.bl false) ρ2 := rfl
@[simp] theorem tOfE_eq (m : EM) (ρ : Env) : tOfE m ρ = (m ρ).bind asB := rfl
@[simp] theorem asB_bl' (b : Bool) (ρ : Env) : asB (.bl b) ρ = .ok b ρ := rfl
@[simp] theorem tAndM_eq (ma mb : TM) (ρ : Env) : tAndM ma mb ρ = (ma ρ).bind fun k ρ1 => if k then mb ρ1 else .ok false ρ1 := rfl
@[simp] theorem tOrM_eq (ma mb : TM) (ρ : Env) : tOrM ma mb ρ = (ma ρ).bind fun k ρ1 => if k then .ok true ρ1 else mb ρ1 := rfl
@[simp] theorem tNotM_eq (ma : TM) (ρ : Env) : tNotM ma ρ = (ma ρ).bind fun k ρ1 => .ok (!k) ρ1 := rfl
@[simp] theorem tYesM_eq (ρ : Env) : tYesM ρ = .ok true ρ := rfl
@[simp] theorem eIf_eq (mc : TM) (ma mb : EM) (ρ : Env) : eIf mc ma mb ρ = (mc ρ).bind fun k ρ1 => if k then ma ρ1 else mb ρ1 := rfl
@[simp] theorem eAnd_eq (ma mb : EM) (ρ : Env) : eAnd ma mb ρ = (ma ρ).bind fun d ρ1 => (ofO (truthy d) ρ1).bind fun k _ => if k then mb ρ1 else .ok d ρ1 := rfl
@[simp] theorem eOr_eq (ma mb : EM) (ρ : Env) : eOr ma mb ρ = (ma ρ).bind fun d ρ1 => (ofO (truthy d) ρ1).bind fun k _ => if k then .ok d ρ1 else mb ρ1 := rfl
@[simp] theorem eNot_eq (ma : EM) (ρ : Env) : eNot ma ρ = (ma ρ).bind fun d ρ1 => (ofO (truthy d) ρ1).bind fun k _ => .ok (.bl (!k)) ρ1 := rfl
@[simp] theorem truthy_bl (b : Bool) : truthy (.bl b) = some b := rfl
@[simp] theorem truthy_non : truthy .non = some false := rfl
@[simp] theorem truthy_int (i : Int) : truthy (.int i) = some (i != 0) := rfl
@[simp] theorem truthy_tup (xs : List D) : truthy (.tup xs) = some (!xs.isEmpty) := rfl
@[simp] theorem truthy_lst (xs : List D) : truthy (.lst xs) = some (!xs.isEmpty) := rfl
@[simp] theorem lNil_eq (ρ : Env) : lNil ρ = .ok [] ρ := rfl
@[simp] theorem lCons_eq (m : EM) (ms : Env → Res (List D)) (ρ : Env) : lCons m ms ρ = (m ρ).bind fun d ρ1 => (ms ρ1).bind fun ds ρ2 => .ok (d :: ds) ρ2 := rfl
@[simp] theorem aNil_eq (ρ : Env) : aNil ρ = .ok [] ρ := rfl
@[simp] theorem aCons_eq (m : RM) (ms : AM) (ρ : Env) : aCons m ms ρ = (m ρ).bind fun d ρ1 => (ms ρ1).bind fun ds ρ2 => .ok (d :: ds) ρ2 := rfl
theorem sz0 : 0 ≤ sizeLine := Nat.zero_le _
@[simp] theorem eTup_eq (m : Env → Res (List D)) (ρ : Env) : eTup m ρ = (m ρ).bind fun ds ρ1 => if ds.length ≤ 16777216 then .ok (.tup ds) ρ1 else .bad := by
  unfold eTup
  rw [sizeLine_eq]
@[simp] theorem eLst_eq (m : Env → Res (List D)) (ρ : Env) : eLst m ρ = (m ρ).bind fun ds ρ1 => if ds.length ≤ 16777216 then .ok (.lst ds) ρ1 else .bad := by
  unfold eLst
  rw [sizeLine_eq]
@[simp] theorem getAll_nil (ρ : Env) : getAll ρ [] = some [] := rfl
@[simp] theorem getAll_cons (ρ : Env) (r : RV) (rs : List RV) : getAll ρ (r :: rs) = match r.get ρ, getAll ρ rs with
  | some d, some ds => some (d :: ds)
  | _, _ => none := rfl
@[simp] theorem eCallB_eq (f : List D → Option D) (ma : AM) (ρ : Env) : eCallB f ma ρ = (ma ρ).bind fun rs ρ1 => (ofO (getAll ρ1 rs) ρ1).bind fun ds _ => ofO (f ds) ρ1 := rfl
@[simp] theorem eIsT_eq (T : TyN) (m : RM) (ρ : Env) : eIsT T m ρ = (m ρ).bind fun x ρ1 => (ofO (x.get ρ1) ρ1).bind fun d _ => ofO (isT T d) ρ1 := rfl
@[simp] theorem eCall_eq (fl : List Bool) (fr : Bool) (F : List D → FRes) (ma : AM) (ρ : Env) : eCall fl fr F ma ρ = (ma ρ).bind (callG fl fr F) := rfl
@[simp] theorem iVal_eq (m : EM) (ρ : Env) : iVal m ρ = (m ρ).bind fun d ρ1 => ofO (itemsD d) ρ1 := rfl
@[simp] theorem iRange1_eq (m : EM) (ρ : Env) : iRange1 m ρ = (m ρ).bind fun d ρ1 => ofO (rng1 d) ρ1 := rfl
@[simp] theorem iRange2_eq (m1 m2 : EM) (ρ : Env) : iRange2 m1 m2 ρ = (m1 ρ).bind fun d ρ1 => (m2 ρ1).bind fun e ρ2 => ofO (rng2 d e) ρ2 := rfl
@[simp] theorem gRg1_eq (m : EM) (ρ : Env) : gRg1 m ρ = (m ρ).bind fun d ρ1 => match d with
  | .int i => .ok ((0 : Int), i) ρ1
  | _ => .bad := rfl
@[simp] theorem ownGet_eq (ρ : Env) (i : Nat) : ownGet ρ i = (RV.own i).get ρ := rfl
@[simp] theorem eComp_eq (mi : Env → Res (List D)) (g : D → Env → Option Env) (mt : TM) (me : EM) (vs : List Nat) (ρ : Env) : eComp mi g mt me vs ρ = (mi ρ).bind fun ds ρ1 => (compL g mt me vs ds [] ρ1).bind fun acc ρe => .ok (.lst acc) (backE ρ1 vs (wipeE ρe vs)) := rfl
@[simp] theorem gNm_eq (i : Nat) (d : D) (ρ : Env) : gNm i d ρ = some (ρ.set i (.v d)) := rfl
@[simp] theorem itemsD_tup (xs : List D) : itemsD (.tup xs) = some xs := rfl
@[simp] theorem itemsD_lst (xs : List D) : itemsD (.lst xs) = some xs := rfl
@[simp] theorem addD_int (i j : Int) : addD (.int i) (.int j) = some (.int (i + j)) := rfl
@[simp] theorem subD_int (i j : Int) : subD (.int i) (.int j) = some (.int (i - j)) := rfl
@[simp] theorem lt2_int (i j : Int) : lt2 (.int i) (.int j) = some (.bl (decide (i < j))) := rfl
@[simp] theorem gt2_int (i j : Int) : gt2 (.int i) (.int j) = some (.bl (decide (j < i))) := rfl
@[simp] theorem le2_int (i j : Int) : le2 (.int i) (.int j) = some (.bl (decide (i ≤ j))) := rfl
@[simp] theorem ge2_int (i j : Int) : ge2 (.int i) (.int j) = some (.bl (decide (j ≤ i))) := rfl
theorem modD_int {i j : Int} (h : 0 < j) : modD (.int i) (.int j) = some (.int (i % j)) := by
  show (if 0 < j then some (D.int (i % j)) else none) = _
  rw [if_pos h]
theorem fdivD_int {i j : Int} (h : 0 < j) (h2 : j < 1073741824) : fdivD (.int i) (.int j) = some (.int (i / j)) := by
  show (if CDiv i j then some (D.int (i / j)) else none) = _
  rw [if_pos ⟨h, h2⟩]
theorem mulD_int {i j : Int} (h : (-18446744073709551616 < i ∧ i < 18446744073709551616) ∨ (-18446744073709551616 < j ∧ j < 18446744073709551616)) : mulD (.int i) (.int j) = some (.int (i * j)) := by
  have h' : CMul i j := by unfold CMul; omega
  show (if CMul i j then some (D.int (i * j)) else none) = _
  rw [if_pos h']
theorem eqD_int (i j : Int) : eqD (.int i) (.int j) = decide (i = j) := by
  unfold eqD
  simp only [toPy, PyData.eqv]
  by_cases h : i = j <;> simp [h]
@[simp] theorem eqO_int (i j : Int) : eqO (.int i) (.int j) = some (.bl (decide (i = j))) := by
  show (if okD 60 (.int i) = true ∧ okD 60 (.int j) = true then some (D.bl (eqD (.int i) (.int j))) else none) = _
  rw [if_pos ⟨rfl, rfl⟩, eqD_int]
@[simp] theorem neO_int (i j : Int) : neO (.int i) (.int j) = some (.bl (!decide (i = j))) := by
  show (if okD 60 (.int i) = true ∧ okD 60 (.int j) = true then some (D.bl (!eqD (.int i) (.int j))) else none) = _
  rw [if_pos ⟨rfl, rfl⟩, eqD_int]
theorem eqD_bl (i j : Bool) : eqD (.bl i) (.bl j) = decide (i = j) := by
  unfold eqD
  simp only [toPy, PyData.eqv]
  cases i <;> cases j <;> rfl
@[simp] theorem eqO_bl (i j : Bool) : eqO (.bl i) (.bl j) = some (.bl (decide (i = j))) := by
  show (if okD 60 (.bl i) = true ∧ okD 60 (.bl j) = true then some (D.bl (eqD (.bl i) (.bl j))) else none) = _
  rw [if_pos ⟨rfl, rfl⟩, eqD_bl]
@[simp] theorem neO_bl (i j : Bool) : neO (.bl i) (.bl j) = some (.bl (!decide (i = j))) := by
  show (if okD 60 (.bl i) = true ∧ okD 60 (.bl j) = true then some (D.bl (!eqD (.bl i) (.bl j))) else none) = _
  rw [if_pos ⟨rfl, rfl⟩, eqD_bl]
@[simp] theorem isD_bl (d : D) (b : Bool) : isD d (.bl b) = some (.bl (isBl b d)) := rfl
@[simp] theorem isD_non (d : D) : isD d .non = some (.bl (isNon d)) := rfl
@[simp] theorem isntD_bl (d : D) (b : Bool) : isntD d (.bl b) = some (.bl (!isBl b d)) := rfl
@[simp] theorem isntD_non (d : D) : isntD d .non = some (.bl (!isNon d)) := rfl
@[simp] theorem isBl_bl (a b : Bool) : isBl b (.bl a) = decide (a = b) := by
  unfold isBl
  cases a <;> cases b <;> rfl
@[simp] theorem ixN_lit0 (n : Nat) : ixN (n + 1) 0 = some 0 := by
  unfold ixN
  simp <;> omega
/-! ### a def's answer -/
@[simp] theorem runF_eq (fl : List Bool) (n : Nat) (m : SM) (ds : List D) : runF fl n m ds = if ds.length = fl.length then match m (slotsOf fl ds ++ List.replicate (n - ds.length) .no) with
  | .nx ρ => fin fl (.ok .non) ρ
  | .rt d ρ => fin fl (.ok d) ρ
  | .rtF d ρ => fin fl (.okF d) ρ
  | .exc x ρ => fin fl (.exc x) ρ
  | _ => .bad else .bad := rfl
@[simp] theorem slots_nil (ds : List D) : slotsOf [] ds = [] := by cases ds <;> rfl
@[simp] theorem slots_v (fs : List Bool) (d : D) (ds : List D) : slotsOf (false :: fs) (d :: ds) = .v d :: slotsOf fs ds := rfl
@[simp] theorem slots_p (fs : List Bool) (d : D) (ds : List D) : slotsOf (true :: fs) (d :: ds) = .p d :: slotsOf fs ds := rfl
@[simp] theorem owns_nil (ρ : Env) : owns [] ρ = some [] := by cases ρ <;> rfl
@[simp] theorem owns_v (fs : List Bool) (s : Slot) (ρ : Env) : owns (false :: fs) (s :: ρ) = owns fs ρ := rfl
@[simp] theorem owns_p (fs : List Bool) (d : D) (ρ : Env) : owns (true :: fs) (.p d :: ρ) = (owns fs ρ).map fun ds => d :: ds := rfl
@[simp] theorem fin_eq (fl : List Bool) (f : List D → FRes) (ρ : Env) : fin fl f ρ = match owns fl ρ with
  | some os => f os
  | none => .bad := rfl
/-! ### calls -/
theorem call_val {fl : List Bool} {F : List D → FRes} {rs : List RV} {ρ : Env} {ds : List D} {r : D} (h1 : getAll ρ rs = some ds) (h2 : ownIdx fl rs = some []) (hF : F ds = .ok r []) (hl : (lent fl rs).isEmpty = true ∨ r.flat = true) : callG fl false F rs ρ = .ok r ρ := by
  unfold callG
  rw [h1, h2]
  simp only [hF]
  have e : lentOk (lent fl rs) r [] = true := by
    unfold lentOk
    rcases hl with h | h <;> simp [h]
  simp [e, upO]
theorem call_valF {fl : List Bool} {F : List D → FRes} {rs : List RV} {ρ : Env} {ds : List D} {r : D} (h1 : getAll ρ rs = some ds) (h2 : ownIdx fl rs = some []) (hF : F ds = .okF r []) (hl : (lent fl rs).isEmpty = true ∨ r.flatO = true) : callG fl true F rs ρ = .ok r ρ := by
  unfold callG
  rw [h1, h2]
  simp only [hF]
  have e : lentOkF (lent fl rs) r [] = true := by
    unfold lentOkF
    rcases hl with h | h <;> simp [h]
  simp [e, upO]
theorem call_own {fl : List Bool} {F : List D → FRes} {rs : List RV} {ρ : Env} {ds : List D} {r o : D} {i : Nat} (h1 : getAll ρ rs = some ds) (h2 : ownIdx fl rs = some [i]) (hF : F ds = .ok r [o]) (hl : lent fl rs = []) : callG fl false F rs ρ = .ok r (ownSet ρ i o) := by
  unfold callG
  rw [h1, h2]
  simp only [hF, hl]
  have e : lentOk [] r [o] = true := rfl
  simp [e, upO]
end NV

set_option Elab.async false
set_option linter.all false
set_option maxRecDepth 100000
set_option maxHeartbeats 4000000
/-! Ev2: comprehensions, loops, rows of ints. -/
namespace NV
open PySem PySem.Spec PyProof.Rows L2

/-! ### comprehensions -/
/-- nothing changes but the own slot -/
theorem comp_pure {mt : TM} {me : EM} {i : Nat} (e : Slot → Env) (hset : ∀ x y, (e x).set i y = e y) (p : D → Bool) (f : D → D) : ∀ (ds : List D), (∀ d ∈ ds, mt (e (.v d)) = .ok (p d) (e (.v d))) → (∀ d ∈ ds, p d = true → me (e (.v d)) = .ok (f d) (e (.v d))) →
    ∀ (acc : List D) (x : Slot), ∃ y, compL (gNm i) mt me [i] ds acc (e x) = .ok (acc ++ (ds.filter p).map f) (e y)
  | [], _, _, acc, x => ⟨x, by simp [compL]⟩
  | d :: ds, ht, he, acc, x => by
    have h1 := ht d List.mem_cons_self
    have ih := comp_pure e hset p f ds (fun d hd => ht d (List.mem_cons_of_mem _ hd)) (fun d hd => he d (List.mem_cons_of_mem _ hd))
    have es : (wipeE (e x) [i]).set i (.v d) = e (.v d) := by rw [show wipeE (e x) [i] = (e x).set i .no from rfl, hset, hset]
    unfold compL
    simp only [gNm_eq, es, h1, noexc_ok, bind_ok']
    cases hp : p d with
    | true =>
      simp only [if_true, he d List.mem_cons_self hp, noexc_ok, bind_ok']
      obtain ⟨y, e2⟩ := ih (acc ++ [f d]) (.v d)
      exact ⟨y, by rw [e2, List.filter_cons_of_pos hp]; simp⟩
    | false =>
      obtain ⟨y, e2⟩ := ih acc (.v d)
      refine ⟨y, ?_⟩
      simp only [Bool.false_eq_true, if_false]
      rw [e2, List.filter_cons_of_neg (by simp [hp])]
/-- a state goes along, some items are kept -/
theorem comp_some {S : Type} {mt : TM} {me : EM} {i : Nat} (e : S → Slot → Env) (hset : ∀ s x y, (e s x).set i y = e s y) : ∀ (ds : List D), (∀ s, ∀ d ∈ ds, ∃ s' b, mt (e s (.v d)) = .ok b (e s' (.v d))) → (∀ s, ∀ d ∈ ds, me (e s (.v d)) = .ok d (e s (.v d))) →
    ∀ (acc : List D) (s : S) (x : Slot), ∃ s' y out, compL (gNm i) mt me [i] ds acc (e s x) = .ok (acc ++ out) (e s' y) ∧ out.Sublist ds
  | [], _, _, acc, s, x => ⟨s, x, [], by simp [compL], .slnil⟩
  | d :: ds, ht, he, acc, s, x => by
    obtain ⟨s1, b, h1⟩ := ht s d List.mem_cons_self
    have ih := comp_some e hset ds (fun s d hd => ht s d (List.mem_cons_of_mem _ hd)) (fun s d hd => he s d (List.mem_cons_of_mem _ hd))
    have es : (wipeE (e s x) [i]).set i (.v d) = e s (.v d) := by rw [show wipeE (e s x) [i] = (e s x).set i .no from rfl, hset, hset]
    unfold compL
    simp only [gNm_eq, es, h1, noexc_ok, bind_ok']
    cases b with
    | true =>
      simp only [if_true, he s1 d List.mem_cons_self, noexc_ok, bind_ok']
      obtain ⟨s', y, out, e2, sb⟩ := ih (acc ++ [d]) s1 (.v d)
      exact ⟨s', y, d :: out, by rw [e2]; simp, sb.cons_cons _⟩
    | false =>
      obtain ⟨s', y, out, e2, sb⟩ := ih acc s1 (.v d)
      refine ⟨s', y, out, ?_, sb.cons _⟩
      simp only [Bool.false_eq_true, if_false]
      exact e2
/-! ### for -/
theorem for_inv {g : D → Env → Option Env} {body : SM} (I : Env → Prop) : ∀ (ds : List D), (∀ d ∈ ds, ∀ ρ, I ρ → ∃ ρ1 ρ2, g d ρ = some ρ1 ∧ (body ρ1 = .nx ρ2 ∨ body ρ1 = .ct ρ2) ∧ I ρ2) → ∀ ρ, I ρ → ∃ ρ', forL g body ds ρ = .nx ρ' ∧ I ρ'
  | [], _, ρ, h => ⟨ρ, rfl, h⟩
  | d :: ds, hb, ρ, h => by
    obtain ⟨ρ1, ρ2, h1, h2, h3⟩ := hb d List.mem_cons_self ρ h
    obtain ⟨ρ', h4, h5⟩ := for_inv I ds (fun d hd => hb d (List.mem_cons_of_mem _ hd)) ρ2 h3
    refine ⟨ρ', ?_, h5⟩
    unfold forL
    rw [h1]
    rcases h2 with h2 | h2
    · simp only [h2]; exact h4
    · simp only [h2]; exact h4
/-! ### rows of ints -/
def iT (l : List Int) : D := .tup (l.map .int)
theorem okL_ints (n : Nat) : ∀ l : List Int, okL n (l.map D.int) = true
  | [] => by cases n <;> rfl
  | i :: l => by
    show (okD n (.int i) && okL n (l.map D.int)) = true
    rw [okL_ints n l]
    cases n <;> rfl
theorem any_ints (k : Int) : ∀ l : List Int, anyD (.int k) (l.map D.int) = decide (k ∈ l)
  | [] => rfl
  | i :: l => by
    have ih := any_ints k l
    unfold anyD at ih ⊢
    rw [List.map_cons, List.any_cons, ih, eqD_int]
    by_cases h : i = k
    · subst h; simp
    · have h' : ¬ k = i := fun z => h z.symm
      by_cases h2 : k ∈ l <;> simp [h, h', h2]
@[simp] theorem in_ints (k : Int) (l : List Int) : inD (.int k) (.tup (l.map D.int)) = some (.bl (decide (k ∈ l))) := by
  show ((if okD 60 (.int k) = true ∧ okL 60 (l.map D.int) = true then some (anyD (.int k) (l.map D.int)) else none).map D.bl) = _
  rw [if_pos ⟨rfl, okL_ints 60 l⟩, any_ints]
  rfl
@[simp] theorem in_intsL (k : Int) (l : List Int) : inD (.int k) (.lst (l.map D.int)) = some (.bl (decide (k ∈ l))) := by
  show ((if okD 60 (.int k) = true ∧ okL 60 (l.map D.int) = true then some (anyD (.int k) (l.map D.int)) else none).map D.bl) = _
  rw [if_pos ⟨rfl, okL_ints 60 l⟩, any_ints]
  rfl
@[simp] theorem notIn_ints (k : Int) (l : List Int) : notInD (.int k) (.tup (l.map D.int)) = some (.bl (!decide (k ∈ l))) := by
  show ((if okD 60 (.int k) = true ∧ okL 60 (l.map D.int) = true then some (anyD (.int k) (l.map D.int)) else none).map fun b => D.bl (!b)) = _
  rw [if_pos ⟨rfl, okL_ints 60 l⟩, any_ints]
  rfl
theorem eqvAll_ints : ∀ l m : List Int, PyData.eqvAll (toPyL (l.map D.int)) (toPyL (m.map D.int)) = decide (l = m)
  | [], [] => by simp [toPyL, PyData.eqvAll]
  | [], _ :: _ => by simp [toPyL, PyData.eqvAll]
  | _ :: _, [] => by simp [toPyL, PyData.eqvAll]
  | i :: l, j :: m => by
    have ih := eqvAll_ints l m
    have e := eqD_int i j
    unfold eqD at e
    rw [List.map_cons, List.map_cons, toPyL, toPyL, PyData.eqvAll, e, ih]
    by_cases h : i = j <;> by_cases h2 : l = m <;> simp [h, h2]
theorem eqD_iT (l m : List Int) : eqD (.tup (l.map D.int)) (.tup (m.map D.int)) = decide (l = m) := by
  unfold eqD
  rw [toPy, toPy, PyData.eqv, eqvAll_ints]
theorem eqD_iL (l m : List Int) : eqD (.lst (l.map D.int)) (.lst (m.map D.int)) = decide (l = m) := by
  unfold eqD
  rw [toPy, toPy, PyData.eqv, eqvAll_ints]
@[simp] theorem eqO_iT (l m : List Int) : eqO (.tup (l.map D.int)) (.tup (m.map D.int)) = some (.bl (decide (l = m))) := by
  cases m with
  | nil => cases l <;> simp [eqO]
  | cons i m =>
    show (if okD 60 (.tup (l.map D.int)) = true ∧ okD 60 (.tup ((i :: m).map D.int)) = true then some (D.bl (eqD (.tup (l.map D.int)) (.tup ((i :: m).map D.int)))) else none) = _
    rw [if_pos ⟨okL_ints 59 l, okL_ints 59 (i :: m)⟩, eqD_iT]
@[simp] theorem eqO_iT0 (l : List Int) : eqO (.tup (l.map D.int)) (.tup []) = some (.bl (decide (l = []))) := eqO_iT l []
@[simp] theorem neO_iL (l m : List Int) : neO (.lst (l.map D.int)) (.lst (m.map D.int)) = some (.bl (!decide (l = m))) := by
  show (if okD 60 (.lst (l.map D.int)) = true ∧ okD 60 (.lst (m.map D.int)) = true then some (D.bl (!eqD (.lst (l.map D.int)) (.lst (m.map D.int)))) else none) = _
  rw [if_pos ⟨okL_ints 59 l, okL_ints 59 m⟩, eqD_iL]
@[simp] theorem neO_iL0 (l : List Int) : neO (.lst (l.map D.int)) (.lst []) = some (.bl (!decide (l = []))) := neO_iL l []
theorem filter_ints (l : List Int) (p : Int → Bool) (q : D → Bool) (h : ∀ i, q (.int i) = p i) : (l.map D.int).filter q = (l.filter p).map D.int := by
  induction l with
  | nil => rfl
  | cons i l ih =>
    rw [List.map_cons, List.filter_cons, List.filter_cons, h i, ih]
    cases p i <;> rfl
theorem intsOf_map : ∀ l : List Int, intsOf (l.map D.int) = some l
  | [] => rfl
  | i :: l => by
    show (intsOf (l.map D.int)).map _ = _
    rw [intsOf_map l]
    rfl
theorem sub_ints {ds : List D} {l : List Int} (h : ds.Sublist (l.map D.int)) : ∃ m : List Int, m.Sublist l ∧ ds = m.map D.int := by
  obtain ⟨m, h1, h2⟩ := List.sublist_map_iff.mp h
  exact ⟨m, h1, h2⟩
/-- the int behind a datum -/
def toI : D → Int
  | .int i => i
  | _ => 0
theorem map_toI (l : List Int) : (l.map D.int).map (fun d => D.int (toI d)) = l.map D.int := by
  rw [List.map_map]
  rfl
end NV

set_option Elab.async false
set_option linter.all false
set_option maxRecDepth 100000
set_option maxHeartbeats 4000000
namespace NV
open PySem PySem.Spec PyProof.Rows L2
def top (i : Nat) : Stmt := PySem.Challenge.pw_neversoon_k03_voices_of_songs.main.body.getD i (.Pass ⟨0, 0, 0, 0⟩)
theorem bt_ValueError : bootBuiltins "ValueError" = some (.type "ValueError") := by decide +kernel
theorem bt_all : bootBuiltins "all" = some (.builtin "all") := by decide +kernel
theorem bt_bool : bootBuiltins "bool" = some (.type "bool") := by decide +kernel
theorem bt_int : bootBuiltins "int" = some (.type "int") := by decide +kernel
theorem bt_isinstance : bootBuiltins "isinstance" = some (.builtin "isinstance") := by decide +kernel
theorem bt_len : bootBuiltins "len" = some (.builtin "len") := by decide +kernel
theorem bt_list : bootBuiltins "list" = some (.type "list") := by decide +kernel
theorem bt_max : bootBuiltins "max" = some (.builtin "max") := by decide +kernel
theorem bt_min : bootBuiltins "min" = some (.builtin "min") := by decide +kernel
theorem bt_sorted : bootBuiltins "sorted" = some (.builtin "sorted") := by decide +kernel
theorem bt_str : bootBuiltins "str" = some (.type "str") := by decide +kernel
theorem bt_tuple : bootBuiltins "tuple" = some (.type "tuple") := by decide +kernel
abbrev CS : List Str := ["NoBands", "NoSong"]
abbrev TS : List Str := ["NoMoment", "NoSong", "NoBands", "NoRules", "NoText", "NoWorld", "NoRow", "NoName", "NoRule", "NoWord", "NoTwice", "NoRoom", "NoRun", "NoItem", "NoCount", "NoWheel"]
def G_LEAST_LENGTH : D := .int 60
def G_LETTERS : D := .str "abcdefghijklmnopqrstuvwxyz"
def G_MOST_BANDS : D := .int 6
def G_MOST_LENGTH : D := .int 900
def G_MOST_LETTERS : D := .int 8
def G_MOST_MEMBERS : D := .int 6
def G_MOST_SINGERS : D := .int 4
def G_WIDE : D := .tup ((["any", "fresh"] : List Str).map D.str)
/-! is_whole -/
abbrev S_is_whole : Stmt := top 19
abbrev N_is_whole : List Str := ["x"]
theorem sc_is_whole : FnScope N_is_whole ["x"] (defScope S_is_whole) := ⟨rfl, rfl, rfl, by decide +kernel, rfl, by decide +kernel, by decide +kernel⟩
def m_is_whole : SM := (sRet (eAnd (eIsT .int (rVar 0)) (eNot (eIsT .bool (rVar 0)))))
def F_is_whole : List D → FRes := runF [false] 1 m_is_whole
theorem fn_is_whole {P : Program} {w : World} {K : PySem.W.Frag} {mg : Str → Option Value} {base : Heap} {f : Addr} {fd : FuncData} (D : FnP K "is_whole" S_is_whole f fd)   (n_isinstance : mg "isinstance" = none) (n_bool : mg "bool" = none) (n_int : mg "int" = none) : FnOk P w K mg base (L2.CX P w) 1 f fd ["x"] (spF K mg [false] F_is_whole) := by
  refine fn_defD (k := 0) D sc_is_whole rfl fun cdv A outer s H E hr => ?_
  have c := cd_of (X := cxOf (L2.CX P w) P w K mg base N_is_whole "is_whole" (defScope S_is_whole) f cdv A outer s H E) hr
  have tk := takes_of (X := cxOf (L2.CX P w) P w K mg base N_is_whole "is_whole" (defScope S_is_whole) f cdv A outer s H E) (E := E) rfl rfl rfl rfl
  have nd := sc_is_whole.nd
  exact (dss_one (ds_ret (de_and (de_isT .int (dr_var (pv 0)) rfl n_isinstance rfl n_int bt_int) (de_one (de_not (de_isT .bool (dr_var (pv 0)) rfl n_isinstance rfl n_bool bt_bool))))))
theorem has_is_whole {P : Program} {w : World} {K : PySem.W.Frag} {mg : Str → Option Value} {base : Heap} {f : Addr} {fd : FuncData} (D : FnP K "is_whole" S_is_whole f fd) (g : mg "is_whole" = some (.ref f))  (n_isinstance : mg "isinstance" = none) (n_bool : mg "bool" = none) (n_int : mg "int" = none) : Has P w K mg base 1 "is_whole" [false] F_is_whole :=
  has_of D (fn_is_whole D n_isinstance n_bool n_int) g (fun _ _ _ _ _ _ us hl => match us, hl with | [_], _ => rfl)
/-! is_name -/
abbrev S_is_name : Stmt := top 29
abbrev N_is_name : List Str := ["x", "sign"]
theorem sc_is_name : FnScope N_is_name ["x"] (defScope S_is_name) := ⟨rfl, rfl, rfl, by decide +kernel, rfl, by decide +kernel, by decide +kernel⟩
def m_is_name : SM := (sRet (eAnd (eIsT .str (rVar 0)) (eAnd (eChain le2 le2 (rOf (eC (.int 1))) (rOf (eCallB lenD (aCons (rVar 0) aNil))) (rOf (eC G_MOST_LETTERS))) (eCallB allD2 (aCons (rOf (eComp (iVal (eVar 0)) (gNm 1) tYesM (eOp2 inD (rVar 1) (rOf (eC G_LETTERS))) [1])) aNil)))))
def F_is_name : List D → FRes := runF [false] 2 m_is_name
theorem fn_is_name {P : Program} {w : World} {K : PySem.W.Frag} {mg : Str → Option Value} {base : Heap} {f : Addr} {fd : FuncData} (D : FnP K "is_name" S_is_name f fd)   (v_LETTERS : Gv K mg "LETTERS" G_LETTERS) (v_MOST_LETTERS : Gv K mg "MOST_LETTERS" G_MOST_LETTERS) (n_all : mg "all" = none) (n_len : mg "len" = none) (n_isinstance : mg "isinstance" = none) (n_str : mg "str" = none) : FnOk P w K mg base (L2.CX P w) 1 f fd ["x"] (spF K mg [false] F_is_name) := by
  refine fn_defD (k := 0) D sc_is_name rfl fun cdv A outer s H E hr => ?_
  have c := cd_of (X := cxOf (L2.CX P w) P w K mg base N_is_name "is_name" (defScope S_is_name) f cdv A outer s H E) hr
  have tk := takes_of (X := cxOf (L2.CX P w) P w K mg base N_is_name "is_name" (defScope S_is_name) f cdv A outer s H E) (E := E) rfl rfl rfl rfl
  have nd := sc_is_name.nd
  exact (dss_one (ds_ret (de_and (de_isT .str (dr_var (pv 0)) rfl n_isinstance rfl n_str bt_str) (de_and (de_chain (op_le2 c) o_le2 (op_le2 c) o_le2 (dr_e de_int) (dr_e (de_callB call_lenA f_len rfl n_len bt_len (da_cons (dr_var (pv 0)) da_nil))) (dr_e (de_glob v_MOST_LETTERS rfl))) (de_one (de_callB (cr_all c.calm) f_all rfl n_all bt_all (da_cons (dr_e (de_f (df_comp c nd (di_val (de_var (pv 0))) (blkOk_by (N := N_is_name) (sc := defScope S_is_name) (own := [("sign", 1)]) (by decide +kernel)) (fun _ _ _ _ _ => (dg_name (i := 1) nd rfl (by first | exact Or.inl rfl | exact Or.inr rfl))) (fun _ _ _ _ _ => dts_nil) (fun _ _ _ _ _ => (de_cmp (op_in c.blk) o_in (dr_var (pv 1)) (dr_e (de_glob v_LETTERS rfl)) (by with_unfolding_all rfl)))))) da_nil)))))))
theorem has_is_name {P : Program} {w : World} {K : PySem.W.Frag} {mg : Str → Option Value} {base : Heap} {f : Addr} {fd : FuncData} (D : FnP K "is_name" S_is_name f fd) (g : mg "is_name" = some (.ref f))  (v_LETTERS : Gv K mg "LETTERS" G_LETTERS) (v_MOST_LETTERS : Gv K mg "MOST_LETTERS" G_MOST_LETTERS) (n_all : mg "all" = none) (n_len : mg "len" = none) (n_isinstance : mg "isinstance" = none) (n_str : mg "str" = none) : Has P w K mg base 1 "is_name" [false] F_is_name :=
  has_of D (fn_is_name D v_LETTERS v_MOST_LETTERS n_all n_len n_isinstance n_str) g (fun _ _ _ _ _ _ us hl => match us, hl with | [_], _ => rfl)
/-! voices_of -/
abbrev S_voices_of : Stmt := top 35
abbrev N_voices_of : List Str := ["bands", "singers", "found", "band", "members"]
theorem sc_voices_of : FnScope N_voices_of ["bands", "singers"] (defScope S_voices_of) := ⟨rfl, rfl, rfl, by decide +kernel, rfl, by decide +kernel, by decide +kernel⟩
def m_voices_of : SM := (sSeq (sSetO 2 (eCallB listD (aCons (rVar 1) aNil))) (sSeq (sFor (iVal (eVar 0)) (gTp 2 (gsCons (gNm 3) (gsCons (gNm 4) gsNil))) (sIf (tOfE (eOp2 inD (rVar 3) (rVar 1))) (sDrop (eMut 2 isLst extD (lCons (eCallB listD (aCons (rVar 4) aNil)) lNil))) sNil)) (sRet (eCallB tuple3D (aCons (rOf (eSortT (rVar 2))) aNil)))))
def F_voices_of : List D → FRes := runF [false, false] 5 m_voices_of
theorem fn_voices_of {P : Program} {w : World} {K : PySem.W.Frag} {mg : Str → Option Value} {base : Heap} {f : Addr} {fd : FuncData} (D : FnP K "voices_of" S_voices_of f fd)   (n_list : mg "list" = none) (n_sorted : mg "sorted" = none) (n_set : mg "set" = none) (n_tuple : mg "tuple" = none) : FnOk P w K mg base (L2.CX P w) 1 f fd ["bands", "singers"] (spF K mg [false, false] F_voices_of) := by
  refine fn_defD (k := 0) D sc_voices_of rfl fun cdv A outer s H E hr => ?_
  have c := cd_of (X := cxOf (L2.CX P w) P w K mg base N_voices_of "voices_of" (defScope S_voices_of) f cdv A outer s H E) hr
  have tk := takes_of (X := cxOf (L2.CX P w) P w K mg base N_voices_of "voices_of" (defScope S_voices_of) f cdv A outer s H E) (E := E) rfl rfl rfl rfl
  have nd := sc_voices_of.nd
  exact (dss_cons (ds_setO (i := 2) nd rfl (by first | exact Or.inl rfl | exact Or.inr rfl) (df_callT call_list_of f_list rfl n_list bt_list (da_cons (dr_var (pv 1)) da_nil))) (dss_cons (ds_for c (passes_of rfl) (di_val (de_var (pv 0))) (dg_tup (n := 2) c (dgs_cons (dg_name (i := 3) nd rfl (by first | exact Or.inl rfl | exact Or.inr rfl)) (dgs_cons (dg_name (i := 4) nd rfl (by first | exact Or.inl rfl | exact Or.inr rfl)) dgs_nil))) (dss_one (ds_if (dt_cmp (op_in c) o_in (dr_var (pv 3)) (dr_var (pv 1)) (by with_unfolding_all rfl)) (dss_one (ds_expr (de_mut (pv 2) PySem.F.slot_list_extend PySem.F.type_list_extend mt_extend m_extendD (dl_cons (de_f (df_callT call_list_of f_list rfl n_list bt_list (da_cons (dr_var (pv 4)) da_nil))) dl_nil)))) dss_nil))) (dss_one (ds_ret (de_callT (call_tup3 c.calm) f_tup3 rfl n_tuple bt_tuple (da_cons (dr_e (de_f (df_sortT c rfl n_sorted rfl n_set bt_sorted (dr_var (pv 2))))) da_nil))))))
theorem has_voices_of {P : Program} {w : World} {K : PySem.W.Frag} {mg : Str → Option Value} {base : Heap} {f : Addr} {fd : FuncData} (D : FnP K "voices_of" S_voices_of f fd) (g : mg "voices_of" = some (.ref f))  (n_list : mg "list" = none) (n_sorted : mg "sorted" = none) (n_set : mg "set" = none) (n_tuple : mg "tuple" = none) : Has P w K mg base 1 "voices_of" [false, false] F_voices_of :=
  has_of D (fn_voices_of D n_list n_sorted n_set n_tuple) g (fun _ _ _ _ _ _ us hl => match us, hl with | [_, _], _ => rfl)
/-! _law_cell -/
abbrev S__law_cell : Stmt := top 38
abbrev N__law_cell : List Str := ["_law_script", "_law_k", "_law_state", "_law_cell_here"]
theorem sc__law_cell : FnScope N__law_cell ["_law_script", "_law_k"] (defScope S__law_cell) := ⟨rfl, rfl, rfl, by decide +kernel, rfl, by decide +kernel, by decide +kernel⟩
def m__law_cell : SM := (sSeq (sIf (tOfE (eOp2 lt2 (rVar 1) (rOf (eCallB lenD (aCons (rVar 0) aNil))))) (sRet (eOp2 ixD (rVar 0) (rVar 1))) sNil) (sSeq (sSet 2 (eOp2 modD (rOf (eOp2 mulD (rOf (eC (.int 60013))) (rOf (eOp2 addD (rOf (eOp2 addD (rOf (eOp2 mulD (rVar 1) (rVar 1))) (rOf (eOp2 mulD (rOf (eC (.int 5))) (rVar 1))))) (rOf (eC (.int 3))))))) (rOf (eC (.int 1000000007))))) (sSeq (sFor (iVal (eSl (rVar 0) oNo (oSome (eC (.int 4))))) (gNm 3) (sSet 2 (eOp2 modD (rOf (eOp2 addD (rOf (eOp2 mulD (rVar 2) (rOf (eC (.int 30011))))) (rVar 3))) (rOf (eC (.int 1000000007)))))) (sRet (eVar 2)))))
def F__law_cell : List D → FRes := runF [false, false] 4 m__law_cell
theorem fn__law_cell {P : Program} {w : World} {K : PySem.W.Frag} {mg : Str → Option Value} {base : Heap} {f : Addr} {fd : FuncData} (D : FnP K "_law_cell" S__law_cell f fd)   (n_len : mg "len" = none) : FnOk P w K mg base (L2.CX P w) 1 f fd ["_law_script", "_law_k"] (spF K mg [false, false] F__law_cell) := by
  refine fn_defD (k := 0) D sc__law_cell rfl fun cdv A outer s H E hr => ?_
  have c := cd_of (X := cxOf (L2.CX P w) P w K mg base N__law_cell "_law_cell" (defScope S__law_cell) f cdv A outer s H E) hr
  have tk := takes_of (X := cxOf (L2.CX P w) P w K mg base N__law_cell "_law_cell" (defScope S__law_cell) f cdv A outer s H E) (E := E) rfl rfl rfl rfl
  have nd := sc__law_cell.nd
  exact (dss_cons (ds_if (dt_cmp (op_lt2 c) o_lt2 (dr_var (pv 1)) (dr_e (de_callB call_lenA f_len rfl n_len bt_len (da_cons (dr_var (pv 0)) da_nil))) (by with_unfolding_all rfl)) (dss_one (ds_ret (de_ix c (dr_var (pv 0)) (dr_var (pv 1))))) dss_nil) (dss_cons (ds_set (i := 2) nd rfl (by first | exact Or.inl rfl | exact Or.inr rfl) (de_op op_mod o_mod (dr_e (de_op op_mul2 o_mul (dr_e de_int) (dr_e (de_op op_add4 o_add (dr_e (de_op op_add4 o_add (dr_e (de_op op_mul2 o_mul (dr_var (pv 1)) (dr_var (pv 1)))) (dr_e (de_op op_mul2 o_mul (dr_e de_int) (dr_var (pv 1)))))) (dr_e de_int))))) (dr_e de_int))) (dss_cons (ds_for c (passes_of rfl) (di_val (de_sl (dr_var (pv 0)) do_none (do_some de_int))) (dg_name (i := 3) nd rfl (by first | exact Or.inl rfl | exact Or.inr rfl)) (dss_one (ds_set (i := 2) nd rfl (by first | exact Or.inl rfl | exact Or.inr rfl) (de_op op_mod o_mod (dr_e (de_op op_add4 o_add (dr_e (de_op op_mul2 o_mul (dr_var (pv 2)) (dr_e de_int))) (dr_var (pv 3)))) (dr_e de_int))))) (dss_one (ds_ret (de_var (pv 2)))))))
theorem has__law_cell {P : Program} {w : World} {K : PySem.W.Frag} {mg : Str → Option Value} {base : Heap} {f : Addr} {fd : FuncData} (D : FnP K "_law_cell" S__law_cell f fd) (g : mg "_law_cell" = some (.ref f))  (n_len : mg "len" = none) : Has P w K mg base 1 "_law_cell" [false, false] F__law_cell :=
  has_of D (fn__law_cell D n_len) g (fun _ _ _ _ _ _ us hl => match us, hl with | [_, _], _ => rfl)
/-! _law_purse -/
abbrev S__law_purse : Stmt := top 39
abbrev N__law_purse : List Str := ["_law_cell_here"]
theorem sc__law_purse : FnScope N__law_purse ["_law_cell_here"] (defScope S__law_purse) := ⟨rfl, rfl, rfl, by decide +kernel, rfl, by decide +kernel, by decide +kernel⟩
def m__law_purse : SM := (sRetF (eLst (lCons (eOp2 addD (rOf (eOp2 mulD (rOf (eOp2 modD (rVar 0) (rOf (eC (.int 999999937))))) (rOf (eC (.int 7907))))) (rOf (eC (.int 4409)))) (lCons (eOp2 ixD (rOf (eLst (lCons (eC (.int 0)) (lCons (eVar 0) lNil)))) (rOf (eCallB intD (aCons (rOf (eOp2 ge2 (rVar 0) (rOf (eOp2 powD (rOf (eC (.int 10))) (rOf (eC (.int 18))))))) aNil)))) (lCons (eC (.int 0)) lNil)))))
def F__law_purse : List D → FRes := runF [false] 1 m__law_purse
theorem fn__law_purse {P : Program} {w : World} {K : PySem.W.Frag} {mg : Str → Option Value} {base : Heap} {f : Addr} {fd : FuncData} (D : FnP K "_law_purse" S__law_purse f fd)   (n_int : mg "int" = none) : FnOk P w K mg base (L2.CX P w) 1 f fd ["_law_cell_here"] (spF K mg [false] F__law_purse) := by
  refine fn_defD (k := 0) D sc__law_purse rfl fun cdv A outer s H E hr => ?_
  have c := cd_of (X := cxOf (L2.CX P w) P w K mg base N__law_purse "_law_purse" (defScope S__law_purse) f cdv A outer s H E) hr
  have tk := takes_of (X := cxOf (L2.CX P w) P w K mg base N__law_purse "_law_purse" (defScope S__law_purse) f cdv A outer s H E) (E := E) rfl rfl rfl rfl
  have nd := sc__law_purse.nd
  exact (dss_one (ds_retF (df_lst (dl_cons (de_op op_add4 o_add (dr_e (de_op op_mul2 o_mul (dr_e (de_op op_mod o_mod (dr_var (pv 0)) (dr_e de_int))) (dr_e de_int))) (dr_e de_int)) (dl_cons (de_ix c (dr_e (de_f (df_lst (dl_cons de_int (dl_cons (de_var (pv 0)) dl_nil))))) (dr_e (de_callT call_int1 f_int rfl n_int bt_int (da_cons (dr_e (de_cmp (op_ge2 c) o_ge2 (dr_var (pv 0)) (dr_e (de_op op_pow o_pow (dr_e de_int) (dr_e de_int))) (by with_unfolding_all rfl))) da_nil)))) (dl_cons de_int dl_nil))))))
theorem has__law_purse {P : Program} {w : World} {K : PySem.W.Frag} {mg : Str → Option Value} {base : Heap} {f : Addr} {fd : FuncData} (D : FnP K "_law_purse" S__law_purse f fd) (g : mg "_law_purse" = some (.ref f))  (n_int : mg "int" = none) : Has P w K mg base 1 "_law_purse" [false] F__law_purse :=
  has_of D (fn__law_purse D n_int) g (fun _ _ _ _ _ _ us hl => match us, hl with | [_], _ => rfl)
/-! _law_pick -/
abbrev S__law_pick : Stmt := top 40
abbrev N__law_pick : List Str := ["_law_purse_here", "_law_many", "_law_state", "_law_taken"]
theorem sc__law_pick : FnScope N__law_pick ["_law_purse_here", "_law_many"] (defScope S__law_pick) := ⟨rfl, rfl, rfl, by decide +kernel, rfl, by decide +kernel, by decide +kernel⟩
def m__law_pick : SM := (sSeq (sSetIx 0 (eOp2 addD (rOf (eOp2 ixD (rVar 0) (rOf (eC (.int 2))))) (rOf (eC (.int 1)))) (eC (.int 2))) (sSeq (sSet 2 (eOp2 modD (rOf (eOp2 ixD (rVar 0) (rOf (eC (.int 0))))) (rOf (eC (.int 999999937))))) (sSeq (sSetIx 0 (eOp2 addD (rOf (eOp2 mulD (rVar 2) (rOf (eOp2 addD (rOf (eOp2 modD (rVar 2) (rOf (eC (.int 30013))))) (rOf (eC (.int 20011))))))) (rOf (eOp2 mulD (rOf (eC (.int 70001))) (rOf (eOp2 ixD (rVar 0) (rOf (eC (.int 2)))))))) (eC (.int 0))) (sSeq (sIf (tOfE (eOp2 gt2 (rOf (eOp2 ixD (rVar 0) (rOf (eC (.int 1))))) (rOf (eC (.int 0))))) (sSeq (sSet 3 (eOp2 modD (rOf (eOp2 ixD (rVar 0) (rOf (eC (.int 1))))) (rVar 1))) (sSeq (sSetIx 0 (eOp2 fdivD (rOf (eOp2 ixD (rVar 0) (rOf (eC (.int 1))))) (rVar 1)) (eC (.int 1))) (sRet (eVar 3)))) sNil) (sRet (eOp2 modD (rOf (eOp2 fdivD (rOf (eOp2 modD (rOf (eOp2 ixD (rVar 0) (rOf (eC (.int 0))))) (rOf (eC (.int 999999937))))) (rOf (eC (.int 8))))) (rVar 1)))))))
def F__law_pick : List D → FRes := runF [true, false] 4 m__law_pick
theorem fn__law_pick {P : Program} {w : World} {K : PySem.W.Frag} {mg : Str → Option Value} {base : Heap} {f : Addr} {fd : FuncData} (D : FnP K "_law_pick" S__law_pick f fd)    : FnOk P w K mg base (L2.CX P w) 1 f fd ["_law_purse_here", "_law_many"] (spF K mg [true, false] F__law_pick) := by
  refine fn_defD (k := 0) D sc__law_pick rfl fun cdv A outer s H E hr => ?_
  have c := cd_of (X := cxOf (L2.CX P w) P w K mg base N__law_pick "_law_pick" (defScope S__law_pick) f cdv A outer s H E) hr
  have tk := takes_of (X := cxOf (L2.CX P w) P w K mg base N__law_pick "_law_pick" (defScope S__law_pick) f cdv A outer s H E) (E := E) rfl rfl rfl rfl
  have nd := sc__law_pick.nd
  exact (dss_cons (ds_setIx (i := 0) (pv 0) (de_op op_add4 o_add (dr_e (de_ix c (dr_var (pv 0)) (dr_e de_int))) (dr_e de_int)) de_int) (dss_cons (ds_set (i := 2) nd rfl (by first | exact Or.inl rfl | exact Or.inr rfl) (de_op op_mod o_mod (dr_e (de_ix c (dr_var (pv 0)) (dr_e de_int))) (dr_e de_int))) (dss_cons (ds_setIx (i := 0) (pv 0) (de_op op_add4 o_add (dr_e (de_op op_mul2 o_mul (dr_var (pv 2)) (dr_e (de_op op_add4 o_add (dr_e (de_op op_mod o_mod (dr_var (pv 2)) (dr_e de_int))) (dr_e de_int))))) (dr_e (de_op op_mul2 o_mul (dr_e de_int) (dr_e (de_ix c (dr_var (pv 0)) (dr_e de_int)))))) de_int) (dss_cons (ds_if (dt_cmp (op_gt2 c) o_gt2 (dr_e (de_ix c (dr_var (pv 0)) (dr_e de_int))) (dr_e de_int) (by with_unfolding_all rfl)) (dss_cons (ds_set (i := 3) nd rfl (by first | exact Or.inl rfl | exact Or.inr rfl) (de_op op_mod o_mod (dr_e (de_ix c (dr_var (pv 0)) (dr_e de_int))) (dr_var (pv 1)))) (dss_cons (ds_setIx (i := 0) (pv 0) (de_op op_fdiv o_fdiv (dr_e (de_ix c (dr_var (pv 0)) (dr_e de_int))) (dr_var (pv 1))) de_int) (dss_one (ds_ret (de_var (pv 3)))))) dss_nil) (dss_one (ds_ret (de_op op_mod o_mod (dr_e (de_op op_fdiv o_fdiv (dr_e (de_op op_mod o_mod (dr_e (de_ix c (dr_var (pv 0)) (dr_e de_int))) (dr_e de_int))) (dr_e de_int))) (dr_var (pv 1)))))))))
theorem has__law_pick {P : Program} {w : World} {K : PySem.W.Frag} {mg : Str → Option Value} {base : Heap} {f : Addr} {fd : FuncData} (D : FnP K "_law_pick" S__law_pick f fd) (g : mg "_law_pick" = some (.ref f))   : Has P w K mg base 1 "_law_pick" [true, false] F__law_pick :=
  has_of D (fn__law_pick D ) g (fun _ _ _ _ _ _ us hl => match us, hl with | [_, _], _ => rfl)
/-! _law_sort -/
abbrev S__law_sort : Stmt := top 41
abbrev N__law_sort : List Str := ["_law_e", "_law_kinds", "_law_words"]
theorem sc__law_sort : FnScope N__law_sort ["_law_e"] (defScope S__law_sort) := ⟨rfl, rfl, rfl, by decide +kernel, rfl, by decide +kernel, by decide +kernel⟩
def m__law_sort : SM := (sSeq (sSet 1 (eLst (lCons (eIsX 0 (tellC CS "NoMoment")) (lCons (eIsX 0 (tellC CS "NoSong")) (lCons (eIsX 0 (tellC CS "NoBands")) (lCons (eIsX 0 (tellC CS "NoRules")) lNil)))))) (sSeq (sSet 1 (eOp2 catD (rVar 1) (rOf (eLst (lCons (eIsX 0 (tellC CS "NoText")) (lCons (eIsX 0 (tellC CS "NoWorld")) (lCons (eIsX 0 (tellC CS "NoRow")) (lCons (eIsX 0 (tellC CS "NoName")) lNil)))))))) (sSeq (sSet 1 (eOp2 catD (rVar 1) (rOf (eLst (lCons (eIsX 0 (tellC CS "NoRule")) (lCons (eIsX 0 (tellC CS "NoWord")) (lCons (eIsX 0 (tellC CS "NoTwice")) (lCons (eIsX 0 (tellC CS "NoRoom")) lNil)))))))) (sSeq (sSet 1 (eOp2 catD (rVar 1) (rOf (eLst (lCons (eIsX 0 (tellC CS "NoRun")) (lCons (eIsX 0 (tellC CS "NoItem")) (lCons (eIsX 0 (tellC CS "NoCount")) (lCons (eIsX 0 (tellC CS "NoWheel")) lNil)))))))) (sSeq (sIf (tOrM (tOfE (eOp2 neH (rOf (eCount (rVar 1) (rOf (eC (.bl true))))) (rOf (eC (.int 1))))) (tNotM (tOfE (eIsX 0 (tellV CS))))) (sRet (eC (.str "other"))) sNil) (sSeq (sSet 2 (eLst (lCons (eC (.str "moment")) (lCons (eC (.str "song")) (lCons (eC (.str "bands")) (lCons (eC (.str "rules")) (lCons (eC (.str "text")) (lCons (eC (.str "world")) (lCons (eC (.str "row")) (lCons (eC (.str "name")) (lCons (eC (.str "rule")) (lCons (eC (.str "word")) (lCons (eC (.str "twice")) (lCons (eC (.str "room")) lNil)))))))))))))) (sRet (eOp2 ixH (rOf (eOp2 catD (rVar 2) (rOf (eLst (lCons (eC (.str "run")) (lCons (eC (.str "item")) (lCons (eC (.str "count")) (lCons (eC (.str "wheel")) lNil)))))))) (rOf (eIndex (rVar 1) (rOf (eC (.bl true)))))))))))))
def F__law_sort : List D → FRes := runF [false] 3 m__law_sort
theorem fn__law_sort {P : Program} {w : World} {K : PySem.W.Frag} {mg : Str → Option Value} {base : Heap} {f : Addr} {fd : FuncData} (D : FnP K "_law_sort" S__law_sort f fd)   (xf : ClsF K mg CS TS) (n_isinstance : mg "isinstance" = none) (n_ValueError : mg "ValueError" = none) : FnT P w K mg base (L2.CX P w) 1 f fd ["_law_e"] (spF K mg [false] F__law_sort) := by
  refine fn_defT (k := 0) D sc__law_sort rfl fun cdv A outer s H E p hr => ?_
  have hu : (L2H.cxH (L2.CX P w) P w K mg base N__law_sort "_law_sort" (defScope S__law_sort) f cdv A outer s H E p).A.units + 64 < cLine := by
    have := hr.un
    show (A.deeper (envOfC "_law_sort" (defScope S__law_sort) s.heap.objs.size f cdv)).units + 64 < cLine
    omega
  have nd := sc__law_sort.nd
  exact (dss_cons (ds_set (i := 1) nd rfl (by first | exact Or.inl rfl | exact Or.inr rfl) (de_f (df_lst (dl_cons (de_isF xf rfl (pv 0) rfl rfl n_isinstance) (dl_cons (de_isF xf rfl (pv 0) rfl rfl n_isinstance) (dl_cons (de_isF xf rfl (pv 0) rfl rfl n_isinstance) (dl_cons (de_isF xf rfl (pv 0) rfl rfl n_isinstance) dl_nil))))))) (dss_cons (ds_set (i := 1) nd rfl (by first | exact Or.inl rfl | exact Or.inr rfl) (de_f (df_op op_cat o_cat (dr_var (pv 1)) (dr_e (de_f (df_lst (dl_cons (de_isF xf rfl (pv 0) rfl rfl n_isinstance) (dl_cons (de_isF xf rfl (pv 0) rfl rfl n_isinstance) (dl_cons (de_isF xf rfl (pv 0) rfl rfl n_isinstance) (dl_cons (de_isF xf rfl (pv 0) rfl rfl n_isinstance) dl_nil)))))))))) (dss_cons (ds_set (i := 1) nd rfl (by first | exact Or.inl rfl | exact Or.inr rfl) (de_f (df_op op_cat o_cat (dr_var (pv 1)) (dr_e (de_f (df_lst (dl_cons (de_isF xf rfl (pv 0) rfl rfl n_isinstance) (dl_cons (de_isF xf rfl (pv 0) rfl rfl n_isinstance) (dl_cons (de_isF xf rfl (pv 0) rfl rfl n_isinstance) (dl_cons (de_isF xf rfl (pv 0) rfl rfl n_isinstance) dl_nil)))))))))) (dss_cons (ds_set (i := 1) nd rfl (by first | exact Or.inl rfl | exact Or.inr rfl) (de_f (df_op op_cat o_cat (dr_var (pv 1)) (dr_e (de_f (df_lst (dl_cons (de_isF xf rfl (pv 0) rfl rfl n_isinstance) (dl_cons (de_isF xf rfl (pv 0) rfl rfl n_isinstance) (dl_cons (de_isF xf rfl (pv 0) rfl rfl n_isinstance) (dl_cons (de_isF xf rfl (pv 0) rfl rfl n_isinstance) dl_nil)))))))))) (dss_cons (ds_if (dt_w (dw_or (dt_cmp (op_neD hu) o_neH (dr_e (de_count hu (dr_var (pv 1)) (dr_e de_bl))) (dr_e de_int) (by with_unfolding_all rfl)) (dw_or1 (dt_not (dt_e (de_isV xf (pv 0) rfl n_ValueError bt_ValueError rfl n_isinstance)))))) (dss_one (ds_ret de_str)) dss_nil) (dss_cons (ds_set (i := 2) nd rfl (by first | exact Or.inl rfl | exact Or.inr rfl) (de_f (df_lst (dl_cons de_str (dl_cons de_str (dl_cons de_str (dl_cons de_str (dl_cons de_str (dl_cons de_str (dl_cons de_str (dl_cons de_str (dl_cons de_str (dl_cons de_str (dl_cons de_str (dl_cons de_str dl_nil))))))))))))))) (dss_one (ds_ret (de_ixH (dr_e (de_f (df_op op_cat o_cat (dr_var (pv 2)) (dr_e (de_f (df_lst (dl_cons de_str (dl_cons de_str (dl_cons de_str (dl_cons de_str dl_nil)))))))))) (dr_e (de_index (dr_var (pv 1)) (dr_e de_bl))))))))))))
theorem has__law_sort {P : Program} {w : World} {K : PySem.W.Frag} {mg : Str → Option Value} {base : Heap} {f : Addr} {fd : FuncData} (D : FnP K "_law_sort" S__law_sort f fd) (g : mg "_law_sort" = some (.ref f))  (xf : ClsF K mg CS TS) (n_isinstance : mg "isinstance" = none) (n_ValueError : mg "ValueError" = none) : HasT P w K mg base 1 "_law_sort" [false] F__law_sort :=
  hasT_of D (fn__law_sort D xf n_isinstance n_ValueError) g (fun _ _ _ _ _ _ us hl => match us, hl with | [_], _ => rfl)
/-! _law_is_name -/
abbrev S__law_is_name : Stmt := top 47
abbrev N__law_is_name : List Str := ["_law_x", "_law_sign"]
theorem sc__law_is_name : FnScope N__law_is_name ["_law_x"] (defScope S__law_is_name) := ⟨rfl, rfl, rfl, by decide +kernel, rfl, by decide +kernel, by decide +kernel⟩
def m__law_is_name : SM := (sSeq (sIf (tOrM (tNotM (tOfE (eIsT .str (rVar 0)))) (tNotM (tOfE (eChain lt2 lt2 (rOf (eC (.int 0))) (rOf (eCallB lenD (aCons (rVar 0) aNil))) (rOf (eC (.int 9))))))) (sRet (eC (.bl false))) sNil) (sRet (eCallB allD2 (aCons (rOf (eComp (iVal (eVar 0)) (gNm 1) tYesM (eOp2 inD (rVar 1) (rOf (eC (.str "abcdefghijklmnopqrstuvwxyz")))) [1])) aNil))))
def F__law_is_name : List D → FRes := runF [false] 2 m__law_is_name
theorem fn__law_is_name {P : Program} {w : World} {K : PySem.W.Frag} {mg : Str → Option Value} {base : Heap} {f : Addr} {fd : FuncData} (D : FnP K "_law_is_name" S__law_is_name f fd)   (n_len : mg "len" = none) (n_isinstance : mg "isinstance" = none) (n_str : mg "str" = none) (n_all : mg "all" = none) : FnOk P w K mg base (L2.CX P w) 1 f fd ["_law_x"] (spF K mg [false] F__law_is_name) := by
  refine fn_defD (k := 0) D sc__law_is_name rfl fun cdv A outer s H E hr => ?_
  have c := cd_of (X := cxOf (L2.CX P w) P w K mg base N__law_is_name "_law_is_name" (defScope S__law_is_name) f cdv A outer s H E) hr
  have tk := takes_of (X := cxOf (L2.CX P w) P w K mg base N__law_is_name "_law_is_name" (defScope S__law_is_name) f cdv A outer s H E) (E := E) rfl rfl rfl rfl
  have nd := sc__law_is_name.nd
  exact (dss_cons (ds_if (dt_w (dw_or (dt_not (dt_e (de_isT .str (dr_var (pv 0)) rfl n_isinstance rfl n_str bt_str))) (dw_or1 (dt_not (dt_chain (op_lt2 c) o_lt2 (op_lt2 c) o_lt2 (dr_e de_int) (dr_e (de_callB call_lenA f_len rfl n_len bt_len (da_cons (dr_var (pv 0)) da_nil))) (dr_e de_int)))))) (dss_one (ds_ret de_bl)) dss_nil) (dss_one (ds_ret (de_callB (cr_all c.calm) f_all rfl n_all bt_all (da_cons (dr_e (de_f (df_comp c nd (di_val (de_var (pv 0))) (blkOk_by (N := N__law_is_name) (sc := defScope S__law_is_name) (own := [("_law_sign", 1)]) (by decide +kernel)) (fun _ _ _ _ _ => (dg_name (i := 1) nd rfl (by first | exact Or.inl rfl | exact Or.inr rfl))) (fun _ _ _ _ _ => dts_nil) (fun _ _ _ _ _ => (de_cmp (op_in c.blk) o_in (dr_var (pv 1)) (dr_e de_str) (by with_unfolding_all rfl)))))) da_nil)))))
theorem has__law_is_name {P : Program} {w : World} {K : PySem.W.Frag} {mg : Str → Option Value} {base : Heap} {f : Addr} {fd : FuncData} (D : FnP K "_law_is_name" S__law_is_name f fd) (g : mg "_law_is_name" = some (.ref f))  (n_len : mg "len" = none) (n_isinstance : mg "isinstance" = none) (n_str : mg "str" = none) (n_all : mg "all" = none) : Has P w K mg base 1 "_law_is_name" [false] F__law_is_name :=
  has_of D (fn__law_is_name D n_len n_isinstance n_str n_all) g (fun _ _ _ _ _ _ us hl => match us, hl with | [_], _ => rfl)
/-! is_kind -/
abbrev S_is_kind : Stmt := top 30
abbrev N_is_kind : List Str := ["x"]
theorem sc_is_kind : FnScope N_is_kind ["x"] (defScope S_is_kind) := ⟨rfl, rfl, rfl, by decide +kernel, rfl, by decide +kernel, by decide +kernel⟩
def m_is_kind : SM := (sRet (eAnd (eCall [false] false F_is_name (aCons (rVar 0) aNil)) (eOp2 notInD (rVar 0) (rOf (eC G_WIDE)))))
def F_is_kind : List D → FRes := runF [false] 1 m_is_kind
theorem fn_is_kind {P : Program} {w : World} {K : PySem.W.Frag} {mg : Str → Option Value} {base : Heap} {f : Addr} {fd : FuncData} (D : FnP K "is_kind" S_is_kind f fd)  (h_is_name : Has P w K mg base 1 "is_name" [false] F_is_name) (v_WIDE : Gv K mg "WIDE" G_WIDE) : FnOk P w K mg base (L2.CX P w) 2 f fd ["x"] (spF K mg [false] F_is_kind) := by
  refine fn_defD (k := 1) D sc_is_kind rfl fun cdv A outer s H E hr => ?_
  have c := cd_of (X := cxOf (L2.CX P w) P w K mg base N_is_kind "is_kind" (defScope S_is_kind) f cdv A outer s H E) hr
  have tk := takes_of (X := cxOf (L2.CX P w) P w K mg base N_is_kind "is_kind" (defScope S_is_kind) f cdv A outer s H E) (E := E) rfl rfl rfl rfl
  have nd := sc_is_kind.nd
  exact (dss_one (ds_ret (de_and (de_callH h_is_name hr rfl tk (da_cons (dr_var (pv 0)) da_nil) (by omega)) (de_one (de_cmp (op_notIn c) o_notIn (dr_var (pv 0)) (dr_e (de_glob v_WIDE rfl)) (by with_unfolding_all rfl))))))
theorem has_is_kind {P : Program} {w : World} {K : PySem.W.Frag} {mg : Str → Option Value} {base : Heap} {f : Addr} {fd : FuncData} (D : FnP K "is_kind" S_is_kind f fd) (g : mg "is_kind" = some (.ref f)) (h_is_name : Has P w K mg base 1 "is_name" [false] F_is_name) (v_WIDE : Gv K mg "WIDE" G_WIDE) : Has P w K mg base 2 "is_kind" [false] F_is_kind :=
  has_of D (fn_is_kind D h_is_name v_WIDE) g (fun _ _ _ _ _ _ us hl => match us, hl with | [_], _ => rfl)
/-! are_names -/
abbrev S_are_names : Stmt := top 31
abbrev N_are_names : List Str := ["x", "most", "name"]
theorem sc_are_names : FnScope N_are_names ["x", "most"] (defScope S_are_names) := ⟨rfl, rfl, rfl, by decide +kernel, rfl, by decide +kernel, by decide +kernel⟩
def m_are_names : SM := (sSeq (sIf (tOrM (tNotM (tOfE (eIsT .tuple (rVar 0)))) (tOrM (tNotM (tOfE (eChain le2 le2 (rOf (eC (.int 1))) (rOf (eCallB lenD (aCons (rVar 0) aNil))) (rVar 1)))) (tNotM (tOfE (eCallB allD2 (aCons (rOf (eComp (iVal (eVar 0)) (gNm 2) tYesM (eCall [false] false F_is_name (aCons (rVar 2) aNil)) [2])) aNil)))))) (sRet (eC (.bl false))) sNil) (sRet (eOp2 eqO (rOf (eLenSet (eVar 0))) (rOf (eCallB lenD (aCons (rVar 0) aNil))))))
def F_are_names : List D → FRes := runF [false, false] 3 m_are_names
theorem fn_are_names {P : Program} {w : World} {K : PySem.W.Frag} {mg : Str → Option Value} {base : Heap} {f : Addr} {fd : FuncData} (D : FnP K "are_names" S_are_names f fd)  (h_is_name : Has P w K mg base 1 "is_name" [false] F_is_name) (n_all : mg "all" = none) (n_len : mg "len" = none) (n_isinstance : mg "isinstance" = none) (n_tuple : mg "tuple" = none) (n_set : mg "set" = none) : FnOk P w K mg base (L2.CX P w) 2 f fd ["x", "most"] (spF K mg [false, false] F_are_names) := by
  refine fn_defD (k := 1) D sc_are_names rfl fun cdv A outer s H E hr => ?_
  have c := cd_of (X := cxOf (L2.CX P w) P w K mg base N_are_names "are_names" (defScope S_are_names) f cdv A outer s H E) hr
  have tk := takes_of (X := cxOf (L2.CX P w) P w K mg base N_are_names "are_names" (defScope S_are_names) f cdv A outer s H E) (E := E) rfl rfl rfl rfl
  have nd := sc_are_names.nd
  exact (dss_cons (ds_if (dt_w (dw_or (dt_not (dt_e (de_isT .tuple (dr_var (pv 0)) rfl n_isinstance rfl n_tuple bt_tuple))) (dw_or (dt_not (dt_chain (op_le2 c) o_le2 (op_le2 c) o_le2 (dr_e de_int) (dr_e (de_callB call_lenA f_len rfl n_len bt_len (da_cons (dr_var (pv 0)) da_nil))) (dr_var (pv 1)))) (dw_or1 (dt_not (dt_e (de_callB (cr_all c.calm) f_all rfl n_all bt_all (da_cons (dr_e (de_f (df_comp c nd (di_val (de_var (pv 0))) (blkOk_by (N := N_are_names) (sc := defScope S_are_names) (own := [("name", 2)]) (by decide +kernel)) (fun _ _ _ _ _ => (dg_name (i := 2) nd rfl (by first | exact Or.inl rfl | exact Or.inr rfl))) (fun _ _ _ _ _ => dts_nil) (fun _ _ _ _ _ => (de_callH h_is_name hr rfl takes0 (da_cons (dr_var (pv 2)) da_nil) (by omega)))))) da_nil)))))))) (dss_one (ds_ret de_bl)) dss_nil) (dss_one (ds_ret (de_cmp (op_eq2 c) o_eq (dr_e (de_lenSet c rfl n_len rfl n_set (de_var (pv 0)))) (dr_e (de_callB call_lenA f_len rfl n_len bt_len (da_cons (dr_var (pv 0)) da_nil))) (by with_unfolding_all rfl)))))
theorem has_are_names {P : Program} {w : World} {K : PySem.W.Frag} {mg : Str → Option Value} {base : Heap} {f : Addr} {fd : FuncData} (D : FnP K "are_names" S_are_names f fd) (g : mg "are_names" = some (.ref f)) (h_is_name : Has P w K mg base 1 "is_name" [false] F_is_name) (n_all : mg "all" = none) (n_len : mg "len" = none) (n_isinstance : mg "isinstance" = none) (n_tuple : mg "tuple" = none) (n_set : mg "set" = none) : Has P w K mg base 2 "are_names" [false, false] F_are_names :=
  has_of D (fn_are_names D h_is_name n_all n_len n_isinstance n_tuple n_set) g (fun _ _ _ _ _ _ us hl => match us, hl with | [_, _], _ => rfl)
/-! _law_any_name -/
abbrev S__law_any_name : Stmt := top 42
abbrev N__law_any_name : List Str := ["_law_purse_here", "_law_words", "_law_letters", "_law_k"]
theorem sc__law_any_name : FnScope N__law_any_name ["_law_purse_here"] (defScope S__law_any_name) := ⟨rfl, rfl, rfl, by decide +kernel, rfl, by decide +kernel, by decide +kernel⟩
def m__law_any_name : SM := (sSeq (sSet 1 (eLst (lCons (eC (.str "song")) (lCons (eC (.str "singer")) (lCons (eC (.str "behind")) (lCons (eC (.str "never")) (lCons (eC (.str "most")) (lCons (eC (.str "fresh")) (lCons (eC (.str "wheel")) (lCons (eC (.str "any")) (lCons (eC (.str "turn")) (lCons (eC (.str "least")) (lCons (eC (.str "ahead")) (lCons (eC (.str "hand")) lNil)))))))))))))) (sSeq (sIf (tOfE (eOp2 eqO (rOf (eCall [true, false] false F__law_pick (aCons (rVar 0) (aCons (rOf (eC (.int 3))) aNil)))) (rOf (eC (.int 0))))) (sRet (eOp2 ixD (rVar 1) (rOf (eCall [true, false] false F__law_pick (aCons (rVar 0) (aCons (rOf (eC (.int 12))) aNil)))))) sNil) (sSeq (sSet 2 (eC (.str "abcdefghijklmnopqrstuvwxyz"))) (sRet (eJoin (eC (.str "")) (eComp (iRange1 (eOp2 addD (rOf (eC (.int 1))) (rOf (eCall [true, false] false F__law_pick (aCons (rVar 0) (aCons (rOf (eC (.int 8))) aNil)))))) (gNm 3) tYesM (eOp2 ixD (rVar 2) (rOf (eCall [true, false] false F__law_pick (aCons (rVar 0) (aCons (rOf (eC (.int 26))) aNil))))) [3]))))))
def F__law_any_name : List D → FRes := runF [true] 4 m__law_any_name
theorem fn__law_any_name {P : Program} {w : World} {K : PySem.W.Frag} {mg : Str → Option Value} {base : Heap} {f : Addr} {fd : FuncData} (D : FnP K "_law_any_name" S__law_any_name f fd)  (h__law_pick : Has P w K mg base 1 "_law_pick" [true, false] F__law_pick) (n_range : mg "range" = none) : FnOk P w K mg base (L2.CX P w) 2 f fd ["_law_purse_here"] (spF K mg [true] F__law_any_name) := by
  refine fn_defD (k := 1) D sc__law_any_name rfl fun cdv A outer s H E hr => ?_
  have c := cd_of (X := cxOf (L2.CX P w) P w K mg base N__law_any_name "_law_any_name" (defScope S__law_any_name) f cdv A outer s H E) hr
  have tk := takes_of (X := cxOf (L2.CX P w) P w K mg base N__law_any_name "_law_any_name" (defScope S__law_any_name) f cdv A outer s H E) (E := E) rfl rfl rfl rfl
  have nd := sc__law_any_name.nd
  exact (dss_cons (ds_set (i := 1) nd rfl (by first | exact Or.inl rfl | exact Or.inr rfl) (de_f (df_lst (dl_cons de_str (dl_cons de_str (dl_cons de_str (dl_cons de_str (dl_cons de_str (dl_cons de_str (dl_cons de_str (dl_cons de_str (dl_cons de_str (dl_cons de_str (dl_cons de_str (dl_cons de_str dl_nil))))))))))))))) (dss_cons (ds_if (dt_cmp (op_eq2 c) o_eq (dr_e (de_callH h__law_pick hr rfl tk (da_cons (dr_var (pv 0)) (da_cons (dr_e de_int) da_nil)) (by omega))) (dr_e de_int) (by with_unfolding_all rfl)) (dss_one (ds_ret (de_ix c (dr_var (pv 1)) (dr_e (de_callH h__law_pick hr rfl tk (da_cons (dr_var (pv 0)) (da_cons (dr_e de_int) da_nil)) (by omega)))))) dss_nil) (dss_cons (ds_set (i := 2) nd rfl (by first | exact Or.inl rfl | exact Or.inr rfl) de_str) (dss_one (ds_ret (de_join de_str (de_f (df_comp c nd (di_range1 rfl n_range (de_op op_add4 o_add (dr_e de_int) (dr_e (de_callH h__law_pick hr rfl tk (da_cons (dr_var (pv 0)) (da_cons (dr_e de_int) da_nil)) (by omega))))) (blkOk_by (N := N__law_any_name) (sc := defScope S__law_any_name) (own := [("_law_k", 3)]) (by decide +kernel)) (fun _ _ _ _ _ => (dg_name (i := 3) nd rfl (by first | exact Or.inl rfl | exact Or.inr rfl))) (fun _ _ _ _ _ => dts_nil) (fun _ _ _ _ _ => (de_ix c.blk (dr_var (pv 2)) (dr_e (de_callH h__law_pick hr rfl takes0 (da_cons (dr_var (pv 0)) (da_cons (dr_e de_int) da_nil)) (by omega)))))))))))))
theorem has__law_any_name {P : Program} {w : World} {K : PySem.W.Frag} {mg : Str → Option Value} {base : Heap} {f : Addr} {fd : FuncData} (D : FnP K "_law_any_name" S__law_any_name f fd) (g : mg "_law_any_name" = some (.ref f)) (h__law_pick : Has P w K mg base 1 "_law_pick" [true, false] F__law_pick) (n_range : mg "range" = none) : Has P w K mg base 2 "_law_any_name" [true] F__law_any_name :=
  has_of D (fn__law_any_name D h__law_pick n_range) g (fun _ _ _ _ _ _ us hl => match us, hl with | [_], _ => rfl)
/-! _law_odd -/
abbrev S__law_odd : Stmt := top 45
abbrev N__law_odd : List Str := ["_law_purse_here", "_law_thing", "_law_some_here"]
theorem sc__law_odd : FnScope N__law_odd ["_law_purse_here", "_law_thing"] (defScope S__law_odd) := ⟨rfl, rfl, rfl, by decide +kernel, rfl, by decide +kernel, by decide +kernel⟩
def m__law_odd : SM := (sSeq (sSet 2 (eLst (lCons (eC .non) (lCons (eC (.bl true)) (lCons (eC (.bl false)) (lCons (eC (.int 0)) (lCons (eC (.int 1)) (lCons (eNeg (eC (.int 1))) (lCons (eOp2 powD (rOf (eC (.int 10))) (rOf (eC (.int 20)))) (lCons (eC (.str "")) (lCons (eC (.str "a")) (lCons (eC (.str "any")) (lCons (eC (.str "fresh")) (lCons (eC (.str "abcdefghi")) (lCons (eC (.str "A")) (lCons (eC (.str "a b")) lNil)))))))))))))))) (sSeq (sSet 2 (eOp2 catD (rVar 2) (rOf (eLst (lCons (eC (.str "a\n")) (lCons (eTup lNil) (lCons (eLst lNil) (lCons (eC (.dct [])) lNil)))))))) (sSeq (sIf (tOfE (eIsT .int (rVar 1))) (sSet 2 (eOp2 catD (rOf (eSl (rVar 2) oNo (oSome (eC (.int 9))))) (rOf (eOp2 repD (rOf (eLst (lCons (eOp2 addD (rVar 1) (rOf (eC (.int 1)))) (lCons (eOp2 subD (rVar 1) (rOf (eC (.int 1)))) (lCons (eOp2 subD (rOf (eC (.int 0))) (rVar 1)) (lCons (eCallB strI (aCons (rVar 1) aNil)) (lCons (eTup (lCons (eVar 1) lNil)) (lCons (eLst (lCons (eVar 1) lNil)) (lCons (eDct (pCons (eC (.str "a")) (eVar 1) pNil)) lNil))))))))) (rOf (eC (.int 3))))))) sNil) (sSeq (sIf (tOfE (eIsT .str (rVar 1))) (sSeq (sSet 2 (eOp2 catD (rVar 2) (rOf (eLst (lCons (eOp2 addD (rVar 1) (rOf (eC (.str "z")))) (lCons (eSl (rVar 1) (oSome (eC (.int 1))) oNo) (lCons (eUpper (eVar 1)) (lCons (eOp2 addD (rVar 1) (rOf (eC (.str " ")))) (lCons (eOp2 addD (rOf (eC (.str "a"))) (rVar 1)) (lCons (eTup (lCons (eVar 1) lNil)) (lCons (eLst (lCons (eVar 1) lNil)) lNil))))))))))) (sSet 2 (eOp2 catD (rVar 2) (rOf (eLst (lCons (eRev (rVar 1)) lNil)))))) sNil) (sRet (eOp2 ixD (rVar 2) (rOf (eCall [true, false] false F__law_pick (aCons (rVar 0) (aCons (rOf (eCallB lenD (aCons (rVar 2) aNil))) aNil))))))))))
def F__law_odd : List D → FRes := runF [true, false] 3 m__law_odd
theorem fn__law_odd {P : Program} {w : World} {K : PySem.W.Frag} {mg : Str → Option Value} {base : Heap} {f : Addr} {fd : FuncData} (D : FnP K "_law_odd" S__law_odd f fd)  (h__law_pick : Has P w K mg base 1 "_law_pick" [true, false] F__law_pick) (n_isinstance : mg "isinstance" = none) (n_int : mg "int" = none) (n_str : mg "str" = none) (n_len : mg "len" = none) : FnOk P w K mg base (L2.CX P w) 2 f fd ["_law_purse_here", "_law_thing"] (spF K mg [true, false] F__law_odd) := by
  refine fn_defD (k := 1) D sc__law_odd rfl fun cdv A outer s H E hr => ?_
  have c := cd_of (X := cxOf (L2.CX P w) P w K mg base N__law_odd "_law_odd" (defScope S__law_odd) f cdv A outer s H E) hr
  have tk := takes_of (X := cxOf (L2.CX P w) P w K mg base N__law_odd "_law_odd" (defScope S__law_odd) f cdv A outer s H E) (E := E) rfl rfl rfl rfl
  have nd := sc__law_odd.nd
  exact (dss_cons (ds_set (i := 2) nd rfl (by first | exact Or.inl rfl | exact Or.inr rfl) (de_f (df_lst (dl_cons de_non (dl_cons de_bl (dl_cons de_bl (dl_cons de_int (dl_cons de_int (dl_cons (de_neg de_int) (dl_cons (de_op op_pow o_pow (dr_e de_int) (dr_e de_int)) (dl_cons de_str (dl_cons de_str (dl_cons de_str (dl_cons de_str (dl_cons de_str (dl_cons de_str (dl_cons de_str dl_nil))))))))))))))))) (dss_cons (ds_set (i := 2) nd rfl (by first | exact Or.inl rfl | exact Or.inr rfl) (de_f (df_op op_cat o_cat (dr_var (pv 2)) (dr_e (de_f (df_lst (dl_cons de_str (dl_cons (de_tup dl_nil) (dl_cons (de_f (df_lst dl_nil)) (dl_cons (de_f df_dnew) dl_nil)))))))))) (dss_cons (ds_if (dt_e (de_isT .int (dr_var (pv 1)) rfl n_isinstance rfl n_int bt_int)) (dss_one (ds_set (i := 2) nd rfl (by first | exact Or.inl rfl | exact Or.inr rfl) (de_f (df_op op_cat o_cat (dr_e (de_sl (dr_var (pv 2)) do_none (do_some de_int))) (dr_e (de_f (df_op op_rep o_rep (dr_e (de_f (df_lst (dl_cons (de_op op_add4 o_add (dr_var (pv 1)) (dr_e de_int)) (dl_cons (de_op op_sub o_sub (dr_var (pv 1)) (dr_e de_int)) (dl_cons (de_op op_sub o_sub (dr_e de_int) (dr_var (pv 1))) (dl_cons (de_callT call_str_int f_strI rfl n_str bt_str (da_cons (dr_var (pv 1)) da_nil)) (dl_cons (de_tup (dl_cons (de_var (pv 1)) dl_nil)) (dl_cons (de_f (df_lst (dl_cons (de_var (pv 1)) dl_nil))) (dl_cons (de_f (df_disp (dpr_cons de_str (de_var (pv 1)) dpr_nil) rfl rfl (by simp) (by decide))) dl_nil)))))))))) (dr_e de_int)))))))) dss_nil) (dss_cons (ds_if (dt_e (de_isT .str (dr_var (pv 1)) rfl n_isinstance rfl n_str bt_str)) (dss_cons (ds_set (i := 2) nd rfl (by first | exact Or.inl rfl | exact Or.inr rfl) (de_f (df_op op_cat o_cat (dr_var (pv 2)) (dr_e (de_f (df_lst (dl_cons (de_op op_add4 o_add (dr_var (pv 1)) (dr_e de_str)) (dl_cons (de_sl (dr_var (pv 1)) (do_some de_int) do_none) (dl_cons (de_upper (de_var (pv 1))) (dl_cons (de_op op_add4 o_add (dr_var (pv 1)) (dr_e de_str)) (dl_cons (de_op op_add4 o_add (dr_e de_str) (dr_var (pv 1))) (dl_cons (de_tup (dl_cons (de_var (pv 1)) dl_nil)) (dl_cons (de_f (df_lst (dl_cons (de_var (pv 1)) dl_nil))) dl_nil))))))))))))) (dss_one (ds_set (i := 2) nd rfl (by first | exact Or.inl rfl | exact Or.inr rfl) (de_f (df_op op_cat o_cat (dr_var (pv 2)) (dr_e (de_f (df_lst (dl_cons (de_rev (dr_var (pv 1))) dl_nil))))))))) dss_nil) (dss_one (ds_ret (de_ix c (dr_var (pv 2)) (dr_e (de_callH h__law_pick hr rfl tk (da_cons (dr_var (pv 0)) (da_cons (dr_e (de_callB call_lenA f_len rfl n_len bt_len (da_cons (dr_var (pv 2)) da_nil))) da_nil)) (by omega))))))))))
theorem has__law_odd {P : Program} {w : World} {K : PySem.W.Frag} {mg : Str → Option Value} {base : Heap} {f : Addr} {fd : FuncData} (D : FnP K "_law_odd" S__law_odd f fd) (g : mg "_law_odd" = some (.ref f)) (h__law_pick : Has P w K mg base 1 "_law_pick" [true, false] F__law_pick) (n_isinstance : mg "isinstance" = none) (n_int : mg "int" = none) (n_str : mg "str" = none) (n_len : mg "len" = none) : Has P w K mg base 2 "_law_odd" [true, false] F__law_odd :=
  has_of D (fn__law_odd D h__law_pick n_isinstance n_int n_str n_len) g (fun _ _ _ _ _ _ us hl => match us, hl with | [_, _], _ => rfl)
/-! _law_are_unlike -/
abbrev S__law_are_unlike : Stmt := top 48
abbrev N__law_are_unlike : List Str := ["_law_x", "_law_most", "_law_name", "_law_k"]
theorem sc__law_are_unlike : FnScope N__law_are_unlike ["_law_x", "_law_most"] (defScope S__law_are_unlike) := ⟨rfl, rfl, rfl, by decide +kernel, rfl, by decide +kernel, by decide +kernel⟩
def m__law_are_unlike : SM := (sSeq (sIf (tOrM (tNotM (tOfE (eIsT .tuple (rVar 0)))) (tNotM (tOfE (eChain le2 le2 (rOf (eC (.int 1))) (rOf (eCallB lenD (aCons (rVar 0) aNil))) (rVar 1))))) (sRet (eC (.bl false))) sNil) (sRet (eAnd (eCallB allD2 (aCons (rOf (eComp (iVal (eVar 0)) (gNm 2) tYesM (eCall [false] false F__law_is_name (aCons (rVar 2) aNil)) [2])) aNil)) (eCallB allD2 (aCons (rOf (eComp (iRange1 (eCallB lenD (aCons (rVar 0) aNil))) (gNm 3) tYesM (eOp2 notInD (rOf (eOp2 ixD (rVar 0) (rVar 3))) (rOf (eSl (rVar 0) oNo (oSome (eVar 3))))) [3])) aNil)))))
def F__law_are_unlike : List D → FRes := runF [false, false] 4 m__law_are_unlike
theorem fn__law_are_unlike {P : Program} {w : World} {K : PySem.W.Frag} {mg : Str → Option Value} {base : Heap} {f : Addr} {fd : FuncData} (D : FnP K "_law_are_unlike" S__law_are_unlike f fd)  (h__law_is_name : Has P w K mg base 1 "_law_is_name" [false] F__law_is_name) (n_len : mg "len" = none) (n_isinstance : mg "isinstance" = none) (n_tuple : mg "tuple" = none) (n_range : mg "range" = none) (n_all : mg "all" = none) : FnOk P w K mg base (L2.CX P w) 2 f fd ["_law_x", "_law_most"] (spF K mg [false, false] F__law_are_unlike) := by
  refine fn_defD (k := 1) D sc__law_are_unlike rfl fun cdv A outer s H E hr => ?_
  have c := cd_of (X := cxOf (L2.CX P w) P w K mg base N__law_are_unlike "_law_are_unlike" (defScope S__law_are_unlike) f cdv A outer s H E) hr
  have tk := takes_of (X := cxOf (L2.CX P w) P w K mg base N__law_are_unlike "_law_are_unlike" (defScope S__law_are_unlike) f cdv A outer s H E) (E := E) rfl rfl rfl rfl
  have nd := sc__law_are_unlike.nd
  exact (dss_cons (ds_if (dt_w (dw_or (dt_not (dt_e (de_isT .tuple (dr_var (pv 0)) rfl n_isinstance rfl n_tuple bt_tuple))) (dw_or1 (dt_not (dt_chain (op_le2 c) o_le2 (op_le2 c) o_le2 (dr_e de_int) (dr_e (de_callB call_lenA f_len rfl n_len bt_len (da_cons (dr_var (pv 0)) da_nil))) (dr_var (pv 1))))))) (dss_one (ds_ret de_bl)) dss_nil) (dss_one (ds_ret (de_and (de_callB (cr_all c.calm) f_all rfl n_all bt_all (da_cons (dr_e (de_f (df_comp c nd (di_val (de_var (pv 0))) (blkOk_by (N := N__law_are_unlike) (sc := defScope S__law_are_unlike) (own := [("_law_name", 2)]) (by decide +kernel)) (fun _ _ _ _ _ => (dg_name (i := 2) nd rfl (by first | exact Or.inl rfl | exact Or.inr rfl))) (fun _ _ _ _ _ => dts_nil) (fun _ _ _ _ _ => (de_callH h__law_is_name hr rfl takes0 (da_cons (dr_var (pv 2)) da_nil) (by omega)))))) da_nil)) (de_one (de_callB (cr_all c.calm) f_all rfl n_all bt_all (da_cons (dr_e (de_f (df_comp c nd (di_range1 rfl n_range (de_callB call_lenA f_len rfl n_len bt_len (da_cons (dr_var (pv 0)) da_nil))) (blkOk_by (N := N__law_are_unlike) (sc := defScope S__law_are_unlike) (own := [("_law_k", 3)]) (by decide +kernel)) (fun _ _ _ _ _ => (dg_name (i := 3) nd rfl (by first | exact Or.inl rfl | exact Or.inr rfl))) (fun _ _ _ _ _ => dts_nil) (fun _ _ _ _ _ => (de_cmp (op_notIn c.blk) o_notIn (dr_e (de_ix c.blk (dr_var (pv 0)) (dr_var (pv 3)))) (dr_e (de_sl (dr_var (pv 0)) do_none (do_some (de_var (pv 3))))) (by with_unfolding_all rfl)))))) da_nil)))))))
theorem has__law_are_unlike {P : Program} {w : World} {K : PySem.W.Frag} {mg : Str → Option Value} {base : Heap} {f : Addr} {fd : FuncData} (D : FnP K "_law_are_unlike" S__law_are_unlike f fd) (g : mg "_law_are_unlike" = some (.ref f)) (h__law_is_name : Has P w K mg base 1 "_law_is_name" [false] F__law_is_name) (n_len : mg "len" = none) (n_isinstance : mg "isinstance" = none) (n_tuple : mg "tuple" = none) (n_range : mg "range" = none) (n_all : mg "all" = none) : Has P w K mg base 2 "_law_are_unlike" [false, false] F__law_are_unlike :=
  has_of D (fn__law_are_unlike D h__law_is_name n_len n_isinstance n_tuple n_range n_all) g (fun _ _ _ _ _ _ us hl => match us, hl with | [_, _], _ => rfl)
/-! _law_some -/
abbrev S__law_some : Stmt := top 52
abbrev N__law_some : List Str := ["_law_purse_here", "_law_names_here", "_law_least", "_law_most", "_law_many", "_law_left", "_law_k"]
theorem sc__law_some : FnScope N__law_some ["_law_purse_here", "_law_names_here", "_law_least", "_law_most"] (defScope S__law_some) := ⟨rfl, rfl, rfl, by decide +kernel, rfl, by decide +kernel, by decide +kernel⟩
def m__law_some : SM := (sSeq (sSet 4 (eOp2 addD (rVar 2) (rOf (eCall [true, false] false F__law_pick (aCons (rVar 0) (aCons (rOf (eOp2 addD (rOf (eOp2 subD (rVar 3) (rVar 2))) (rOf (eC (.int 1))))) aNil)))))) (sSeq (sSetO 5 (eCallB listD (aCons (rVar 1) aNil))) (sRet (eCallB tuple3D (aCons (rOf (eComp (iRange1 (eVar 4)) (gNm 6) tYesM (eMut 5 isLst popD (lCons (eCall [true, false] false F__law_pick (aCons (rVar 0) (aCons (rOf (eCallB lenD (aCons (rVar 5) aNil))) aNil))) lNil)) [6])) aNil)))))
def F__law_some : List D → FRes := runF [true, false, false, false] 7 m__law_some
theorem fn__law_some {P : Program} {w : World} {K : PySem.W.Frag} {mg : Str → Option Value} {base : Heap} {f : Addr} {fd : FuncData} (D : FnP K "_law_some" S__law_some f fd)  (h__law_pick : Has P w K mg base 1 "_law_pick" [true, false] F__law_pick) (n_list : mg "list" = none) (n_range : mg "range" = none) (n_len : mg "len" = none) (n_tuple : mg "tuple" = none) : FnOk P w K mg base (L2.CX P w) 2 f fd ["_law_purse_here", "_law_names_here", "_law_least", "_law_most"] (spF K mg [true, false, false, false] F__law_some) := by
  refine fn_defD (k := 1) D sc__law_some rfl fun cdv A outer s H E hr => ?_
  have c := cd_of (X := cxOf (L2.CX P w) P w K mg base N__law_some "_law_some" (defScope S__law_some) f cdv A outer s H E) hr
  have tk := takes_of (X := cxOf (L2.CX P w) P w K mg base N__law_some "_law_some" (defScope S__law_some) f cdv A outer s H E) (E := E) rfl rfl rfl rfl
  have nd := sc__law_some.nd
  exact (dss_cons (ds_set (i := 4) nd rfl (by first | exact Or.inl rfl | exact Or.inr rfl) (de_op op_add4 o_add (dr_var (pv 2)) (dr_e (de_callH h__law_pick hr rfl tk (da_cons (dr_var (pv 0)) (da_cons (dr_e (de_op op_add4 o_add (dr_e (de_op op_sub o_sub (dr_var (pv 3)) (dr_var (pv 2)))) (dr_e de_int))) da_nil)) (by omega))))) (dss_cons (ds_setO (i := 5) nd rfl (by first | exact Or.inl rfl | exact Or.inr rfl) (df_callT call_list_of f_list rfl n_list bt_list (da_cons (dr_var (pv 1)) da_nil))) (dss_one (ds_ret (de_callT (call_tup3 c.calm) f_tup3 rfl n_tuple bt_tuple (da_cons (dr_e (de_f (df_comp c nd (di_range1 rfl n_range (de_var (pv 4))) (blkOk_by (N := N__law_some) (sc := defScope S__law_some) (own := [("_law_k", 6)]) (by decide +kernel)) (fun _ _ _ _ _ => (dg_name (i := 6) nd rfl (by first | exact Or.inl rfl | exact Or.inr rfl))) (fun _ _ _ _ _ => dts_nil) (fun _ _ _ _ _ => (de_mut (pv 5) PySem.F.slot_list_pop PySem.F.type_list_pop mt_popAt m_popAt (dl_cons (de_callH h__law_pick hr rfl takes0 (da_cons (dr_var (pv 0)) (da_cons (dr_e (de_callB call_lenA f_len rfl n_len bt_len (da_cons (dr_var (pv 5)) da_nil))) da_nil)) (by omega)) dl_nil)))))) da_nil))))))
theorem has__law_some {P : Program} {w : World} {K : PySem.W.Frag} {mg : Str → Option Value} {base : Heap} {f : Addr} {fd : FuncData} (D : FnP K "_law_some" S__law_some f fd) (g : mg "_law_some" = some (.ref f)) (h__law_pick : Has P w K mg base 1 "_law_pick" [true, false] F__law_pick) (n_list : mg "list" = none) (n_range : mg "range" = none) (n_len : mg "len" = none) (n_tuple : mg "tuple" = none) : Has P w K mg base 2 "_law_some" [true, false, false, false] F__law_some :=
  has_of D (fn__law_some D h__law_pick n_list n_range n_len n_tuple) g (fun _ _ _ _ _ _ us hl => match us, hl with | [_, _, _, _], _ => rfl)
/-! is_song -/
abbrev S_is_song : Stmt := top 32
abbrev N_is_song : List Str := ["x"]
theorem sc_is_song : FnScope N_is_song ["x"] (defScope S_is_song) := ⟨rfl, rfl, rfl, by decide +kernel, rfl, by decide +kernel, by decide +kernel⟩
def m_is_song : SM := (sSeq (sIf (tOrM (tNotM (tOfE (eIsT .tuple (rVar 0)))) (tOrM (tOfE (eOp2 neO (rOf (eCallB lenD (aCons (rVar 0) aNil))) (rOf (eC (.int 4))))) (tOrM (tNotM (tOfE (eCall [false] false F_is_name (aCons (rOf (eOp2 ixD (rVar 0) (rOf (eC (.int 0))))) aNil)))) (tNotM (tOfE (eCall [false] false F_is_whole (aCons (rOf (eOp2 ixD (rVar 0) (rOf (eC (.int 1))))) aNil))))))) (sRet (eC (.bl false))) sNil) (sRet (eAnd (eChain le2 le2 (rOf (eC G_LEAST_LENGTH)) (rOf (eOp2 ixD (rVar 0) (rOf (eC (.int 1))))) (rOf (eC G_MOST_LENGTH))) (eAnd (eCall [false, false] false F_are_names (aCons (rOf (eOp2 ixD (rVar 0) (rOf (eC (.int 2))))) (aCons (rOf (eC G_MOST_SINGERS)) aNil))) (eCall [false] false F_is_kind (aCons (rOf (eOp2 ixD (rVar 0) (rOf (eC (.int 3))))) aNil))))))
def F_is_song : List D → FRes := runF [false] 1 m_is_song
theorem fn_is_song {P : Program} {w : World} {K : PySem.W.Frag} {mg : Str → Option Value} {base : Heap} {f : Addr} {fd : FuncData} (D : FnP K "is_song" S_is_song f fd)  (h_is_whole : Has P w K mg base 1 "is_whole" [false] F_is_whole) (h_is_name : Has P w K mg base 1 "is_name" [false] F_is_name) (h_is_kind : Has P w K mg base 2 "is_kind" [false] F_is_kind) (h_are_names : Has P w K mg base 2 "are_names" [false, false] F_are_names) (v_MOST_SINGERS : Gv K mg "MOST_SINGERS" G_MOST_SINGERS) (v_LEAST_LENGTH : Gv K mg "LEAST_LENGTH" G_LEAST_LENGTH) (v_MOST_LENGTH : Gv K mg "MOST_LENGTH" G_MOST_LENGTH) (n_len : mg "len" = none) (n_isinstance : mg "isinstance" = none) (n_tuple : mg "tuple" = none) : FnOk P w K mg base (L2.CX P w) 3 f fd ["x"] (spF K mg [false] F_is_song) := by
  refine fn_defD (k := 2) D sc_is_song rfl fun cdv A outer s H E hr => ?_
  have c := cd_of (X := cxOf (L2.CX P w) P w K mg base N_is_song "is_song" (defScope S_is_song) f cdv A outer s H E) hr
  have tk := takes_of (X := cxOf (L2.CX P w) P w K mg base N_is_song "is_song" (defScope S_is_song) f cdv A outer s H E) (E := E) rfl rfl rfl rfl
  have nd := sc_is_song.nd
  exact (dss_cons (ds_if (dt_w (dw_or (dt_not (dt_e (de_isT .tuple (dr_var (pv 0)) rfl n_isinstance rfl n_tuple bt_tuple))) (dw_or (dt_cmp (op_ne2 c) o_ne (dr_e (de_callB call_lenA f_len rfl n_len bt_len (da_cons (dr_var (pv 0)) da_nil))) (dr_e de_int) (by with_unfolding_all rfl)) (dw_or (dt_not (dt_e (de_callH h_is_name hr rfl tk (da_cons (dr_e (de_ix c (dr_var (pv 0)) (dr_e de_int))) da_nil) (by omega)))) (dw_or1 (dt_not (dt_e (de_callH h_is_whole hr rfl tk (da_cons (dr_e (de_ix c (dr_var (pv 0)) (dr_e de_int))) da_nil) (by omega))))))))) (dss_one (ds_ret de_bl)) dss_nil) (dss_one (ds_ret (de_and (de_chain (op_le2 c) o_le2 (op_le2 c) o_le2 (dr_e (de_glob v_LEAST_LENGTH rfl)) (dr_e (de_ix c (dr_var (pv 0)) (dr_e de_int))) (dr_e (de_glob v_MOST_LENGTH rfl))) (de_and (de_callH h_are_names hr rfl tk (da_cons (dr_e (de_ix c (dr_var (pv 0)) (dr_e de_int))) (da_cons (dr_e (de_glob v_MOST_SINGERS rfl)) da_nil)) (by omega)) (de_one (de_callH h_is_kind hr rfl tk (da_cons (dr_e (de_ix c (dr_var (pv 0)) (dr_e de_int))) da_nil) (by omega))))))))
theorem has_is_song {P : Program} {w : World} {K : PySem.W.Frag} {mg : Str → Option Value} {base : Heap} {f : Addr} {fd : FuncData} (D : FnP K "is_song" S_is_song f fd) (g : mg "is_song" = some (.ref f)) (h_is_whole : Has P w K mg base 1 "is_whole" [false] F_is_whole) (h_is_name : Has P w K mg base 1 "is_name" [false] F_is_name) (h_is_kind : Has P w K mg base 2 "is_kind" [false] F_is_kind) (h_are_names : Has P w K mg base 2 "are_names" [false, false] F_are_names) (v_MOST_SINGERS : Gv K mg "MOST_SINGERS" G_MOST_SINGERS) (v_LEAST_LENGTH : Gv K mg "LEAST_LENGTH" G_LEAST_LENGTH) (v_MOST_LENGTH : Gv K mg "MOST_LENGTH" G_MOST_LENGTH) (n_len : mg "len" = none) (n_isinstance : mg "isinstance" = none) (n_tuple : mg "tuple" = none) : Has P w K mg base 3 "is_song" [false] F_is_song :=
  has_of D (fn_is_song D h_is_whole h_is_name h_is_kind h_are_names v_MOST_SINGERS v_LEAST_LENGTH v_MOST_LENGTH n_len n_isinstance n_tuple) g (fun _ _ _ _ _ _ us hl => match us, hl with | [_], _ => rfl)
/-! is_band -/
abbrev S_is_band : Stmt := top 33
abbrev N_is_band : List Str := ["x"]
theorem sc_is_band : FnScope N_is_band ["x"] (defScope S_is_band) := ⟨rfl, rfl, rfl, by decide +kernel, rfl, by decide +kernel, by decide +kernel⟩
def m_is_band : SM := (sRet (eAnd (eIsT .tuple (rVar 0)) (eAnd (eOp2 eqO (rOf (eCallB lenD (aCons (rVar 0) aNil))) (rOf (eC (.int 2)))) (eAnd (eCall [false] false F_is_name (aCons (rOf (eOp2 ixD (rVar 0) (rOf (eC (.int 0))))) aNil)) (eCall [false, false] false F_are_names (aCons (rOf (eOp2 ixD (rVar 0) (rOf (eC (.int 1))))) (aCons (rOf (eC G_MOST_MEMBERS)) aNil)))))))
def F_is_band : List D → FRes := runF [false] 1 m_is_band
theorem fn_is_band {P : Program} {w : World} {K : PySem.W.Frag} {mg : Str → Option Value} {base : Heap} {f : Addr} {fd : FuncData} (D : FnP K "is_band" S_is_band f fd)  (h_are_names : Has P w K mg base 2 "are_names" [false, false] F_are_names) (h_is_name : Has P w K mg base 1 "is_name" [false] F_is_name) (v_MOST_MEMBERS : Gv K mg "MOST_MEMBERS" G_MOST_MEMBERS) (n_len : mg "len" = none) (n_isinstance : mg "isinstance" = none) (n_tuple : mg "tuple" = none) : FnOk P w K mg base (L2.CX P w) 3 f fd ["x"] (spF K mg [false] F_is_band) := by
  refine fn_defD (k := 2) D sc_is_band rfl fun cdv A outer s H E hr => ?_
  have c := cd_of (X := cxOf (L2.CX P w) P w K mg base N_is_band "is_band" (defScope S_is_band) f cdv A outer s H E) hr
  have tk := takes_of (X := cxOf (L2.CX P w) P w K mg base N_is_band "is_band" (defScope S_is_band) f cdv A outer s H E) (E := E) rfl rfl rfl rfl
  have nd := sc_is_band.nd
  exact (dss_one (ds_ret (de_and (de_isT .tuple (dr_var (pv 0)) rfl n_isinstance rfl n_tuple bt_tuple) (de_and (de_cmp (op_eq2 c) o_eq (dr_e (de_callB call_lenA f_len rfl n_len bt_len (da_cons (dr_var (pv 0)) da_nil))) (dr_e de_int) (by with_unfolding_all rfl)) (de_and (de_callH h_is_name hr rfl tk (da_cons (dr_e (de_ix c (dr_var (pv 0)) (dr_e de_int))) da_nil) (by omega)) (de_one (de_callH h_are_names hr rfl tk (da_cons (dr_e (de_ix c (dr_var (pv 0)) (dr_e de_int))) (da_cons (dr_e (de_glob v_MOST_MEMBERS rfl)) da_nil)) (by omega))))))))
theorem has_is_band {P : Program} {w : World} {K : PySem.W.Frag} {mg : Str → Option Value} {base : Heap} {f : Addr} {fd : FuncData} (D : FnP K "is_band" S_is_band f fd) (g : mg "is_band" = some (.ref f)) (h_are_names : Has P w K mg base 2 "are_names" [false, false] F_are_names) (h_is_name : Has P w K mg base 1 "is_name" [false] F_is_name) (v_MOST_MEMBERS : Gv K mg "MOST_MEMBERS" G_MOST_MEMBERS) (n_len : mg "len" = none) (n_isinstance : mg "isinstance" = none) (n_tuple : mg "tuple" = none) : Has P w K mg base 3 "is_band" [false] F_is_band :=
  has_of D (fn_is_band D h_are_names h_is_name v_MOST_MEMBERS n_len n_isinstance n_tuple) g (fun _ _ _ _ _ _ us hl => match us, hl with | [_], _ => rfl)
/-! _law_kind -/
abbrev S__law_kind : Stmt := top 43
abbrev N__law_kind : List Str := ["_law_purse_here", "_law_name"]
theorem sc__law_kind : FnScope N__law_kind ["_law_purse_here"] (defScope S__law_kind) := ⟨rfl, rfl, rfl, by decide +kernel, rfl, by decide +kernel, by decide +kernel⟩
def m__law_kind : SM := (sSeq (sSet 1 (eCall [true] false F__law_any_name (aCons (rVar 0) aNil))) (sRet (eOp2 ixD (rOf (eLst (lCons (eVar 1) (lCons (eOp2 addD (rOf (eSl (rVar 1) oNo (oSome (eC (.int 7))))) (rOf (eC (.str "s")))) lNil)))) (rOf (eCallB intD (aCons (rOf (eOp2 inD (rVar 1) (rOf (eTup (lCons (eC (.str "any")) (lCons (eC (.str "fresh")) lNil)))))) aNil))))))
def F__law_kind : List D → FRes := runF [true] 2 m__law_kind
theorem fn__law_kind {P : Program} {w : World} {K : PySem.W.Frag} {mg : Str → Option Value} {base : Heap} {f : Addr} {fd : FuncData} (D : FnP K "_law_kind" S__law_kind f fd)  (h__law_any_name : Has P w K mg base 2 "_law_any_name" [true] F__law_any_name) (n_int : mg "int" = none) : FnOk P w K mg base (L2.CX P w) 3 f fd ["_law_purse_here"] (spF K mg [true] F__law_kind) := by
  refine fn_defD (k := 2) D sc__law_kind rfl fun cdv A outer s H E hr => ?_
  have c := cd_of (X := cxOf (L2.CX P w) P w K mg base N__law_kind "_law_kind" (defScope S__law_kind) f cdv A outer s H E) hr
  have tk := takes_of (X := cxOf (L2.CX P w) P w K mg base N__law_kind "_law_kind" (defScope S__law_kind) f cdv A outer s H E) (E := E) rfl rfl rfl rfl
  have nd := sc__law_kind.nd
  exact (dss_cons (ds_set (i := 1) nd rfl (by first | exact Or.inl rfl | exact Or.inr rfl) (de_callH h__law_any_name hr rfl tk (da_cons (dr_var (pv 0)) da_nil) (by omega))) (dss_one (ds_ret (de_ix c (dr_e (de_f (df_lst (dl_cons (de_var (pv 1)) (dl_cons (de_op op_add4 o_add (dr_e (de_sl (dr_var (pv 1)) do_none (do_some de_int))) (dr_e de_str)) dl_nil))))) (dr_e (de_callT call_int1 f_int rfl n_int bt_int (da_cons (dr_e (de_cmp (op_in c) o_in (dr_var (pv 1)) (dr_e (de_tup (dl_cons de_str (dl_cons de_str dl_nil)))) (by with_unfolding_all rfl))) da_nil)))))))
theorem has__law_kind {P : Program} {w : World} {K : PySem.W.Frag} {mg : Str → Option Value} {base : Heap} {f : Addr} {fd : FuncData} (D : FnP K "_law_kind" S__law_kind f fd) (g : mg "_law_kind" = some (.ref f)) (h__law_any_name : Has P w K mg base 2 "_law_any_name" [true] F__law_any_name) (n_int : mg "int" = none) : Has P w K mg base 3 "_law_kind" [true] F__law_kind :=
  has_of D (fn__law_kind D h__law_any_name n_int) g (fun _ _ _ _ _ _ us hl => match us, hl with | [_], _ => rfl)
/-! _law_unlike -/
abbrev S__law_unlike : Stmt := top 44
abbrev N__law_unlike : List Str := ["_law_purse_here", "_law_many", "_law_found", "_law_k", "_law_name", "_law_sign"]
theorem sc__law_unlike : FnScope N__law_unlike ["_law_purse_here", "_law_many"] (defScope S__law_unlike) := ⟨rfl, rfl, rfl, by decide +kernel, rfl, by decide +kernel, by decide +kernel⟩
def m__law_unlike : SM := (sSeq (sSetO 2 (eLst lNil)) (sSeq (sFor (iRange1 (eVar 1)) (gNm 3) (sSeq (sSet 4 (eCall [true] false F__law_any_name (aCons (rVar 0) aNil))) (sSeq (sIf (tOfE (eOp2 inD (rVar 4) (rVar 2))) (sSet 4 (eOp2 ixD (rOf (eComp (iVal (eC (.str "abcdefghijklmnopqrstuvwxyz"))) (gNm 5) (tOfE (eOp2 notInD (rVar 5) (rVar 2))) (eVar 5) [5])) (rOf (eC (.int 0))))) sNil) (sDrop (eMut 2 isLst appD (lCons (eVar 4) lNil)))))) (sRet (eCallB tuple3D (aCons (rVar 2) aNil)))))
def F__law_unlike : List D → FRes := runF [true, false] 6 m__law_unlike
theorem fn__law_unlike {P : Program} {w : World} {K : PySem.W.Frag} {mg : Str → Option Value} {base : Heap} {f : Addr} {fd : FuncData} (D : FnP K "_law_unlike" S__law_unlike f fd)  (h__law_any_name : Has P w K mg base 2 "_law_any_name" [true] F__law_any_name) (n_range : mg "range" = none) (n_tuple : mg "tuple" = none) : FnOk P w K mg base (L2.CX P w) 3 f fd ["_law_purse_here", "_law_many"] (spF K mg [true, false] F__law_unlike) := by
  refine fn_defD (k := 2) D sc__law_unlike rfl fun cdv A outer s H E hr => ?_
  have c := cd_of (X := cxOf (L2.CX P w) P w K mg base N__law_unlike "_law_unlike" (defScope S__law_unlike) f cdv A outer s H E) hr
  have tk := takes_of (X := cxOf (L2.CX P w) P w K mg base N__law_unlike "_law_unlike" (defScope S__law_unlike) f cdv A outer s H E) (E := E) rfl rfl rfl rfl
  have nd := sc__law_unlike.nd
  exact (dss_cons (ds_setO (i := 2) nd rfl (by first | exact Or.inl rfl | exact Or.inr rfl) (df_lst dl_nil)) (dss_cons (ds_for c (passes_of rfl) (di_range1 rfl n_range (de_var (pv 1))) (dg_name (i := 3) nd rfl (by first | exact Or.inl rfl | exact Or.inr rfl)) (dss_cons (ds_set (i := 4) nd rfl (by first | exact Or.inl rfl | exact Or.inr rfl) (de_callH h__law_any_name hr rfl tk (da_cons (dr_var (pv 0)) da_nil) (by omega))) (dss_cons (ds_if (dt_cmp (op_in c) o_in (dr_var (pv 4)) (dr_var (pv 2)) (by with_unfolding_all rfl)) (dss_one (ds_set (i := 4) nd rfl (by first | exact Or.inl rfl | exact Or.inr rfl) (de_ix c (dr_e (de_f (df_comp c nd (di_val de_str) (blkOk_by (N := N__law_unlike) (sc := defScope S__law_unlike) (own := [("_law_sign", 5)]) (by decide +kernel)) (fun _ _ _ _ _ => (dg_name (i := 5) nd rfl (by first | exact Or.inl rfl | exact Or.inr rfl))) (fun _ _ _ _ _ => (dts_one (dt_cmp (op_notIn c.blk) o_notIn (dr_var (pv 5)) (dr_var (pv 2)) (by with_unfolding_all rfl)))) (fun _ _ _ _ _ => (de_var (pv 5)))))) (dr_e de_int)))) dss_nil) (dss_one (ds_expr (de_mut (pv 2) PySem.F.slot_list_append PySem.F.type_list_append mt_append m_append (dl_cons (de_var (pv 4)) dl_nil))))))) (dss_one (ds_ret (de_callT (call_tup3 c.calm) f_tup3 rfl n_tuple bt_tuple (da_cons (dr_var (pv 2)) da_nil))))))
theorem has__law_unlike {P : Program} {w : World} {K : PySem.W.Frag} {mg : Str → Option Value} {base : Heap} {f : Addr} {fd : FuncData} (D : FnP K "_law_unlike" S__law_unlike f fd) (g : mg "_law_unlike" = some (.ref f)) (h__law_any_name : Has P w K mg base 2 "_law_any_name" [true] F__law_any_name) (n_range : mg "range" = none) (n_tuple : mg "tuple" = none) : Has P w K mg base 3 "_law_unlike" [true, false] F__law_unlike :=
  has_of D (fn__law_unlike D h__law_any_name n_range n_tuple) g (fun _ _ _ _ _ _ us hl => match us, hl with | [_, _], _ => rfl)
/-! _law_is_song -/
abbrev S__law_is_song : Stmt := top 49
abbrev N__law_is_song : List Str := ["_law_x"]
theorem sc__law_is_song : FnScope N__law_is_song ["_law_x"] (defScope S__law_is_song) := ⟨rfl, rfl, rfl, by decide +kernel, rfl, by decide +kernel, by decide +kernel⟩
def m__law_is_song : SM := (sSeq (sIf (tOrM (tNotM (tOfE (eIsT .tuple (rVar 0)))) (tOrM (tOfE (eOp2 neO (rOf (eCallB lenD (aCons (rVar 0) aNil))) (rOf (eC (.int 4))))) (tOrM (tNotM (tOfE (eCall [false] false F__law_is_name (aCons (rOf (eOp2 ixD (rVar 0) (rOf (eC (.int 0))))) aNil)))) (tNotM (tOfE (eCall [false] false F__law_is_name (aCons (rOf (eOp2 ixD (rVar 0) (rOf (eC (.int 3))))) aNil))))))) (sRet (eC (.bl false))) sNil) (sSeq (sIf (tOrM (tNotM (tOfE (eIsT .int (rOf (eOp2 ixD (rVar 0) (rOf (eC (.int 1)))))))) (tOrM (tOfE (eIsT .bool (rOf (eOp2 ixD (rVar 0) (rOf (eC (.int 1))))))) (tNotM (tOfE (eChain le2 le2 (rOf (eC (.int 60))) (rOf (eOp2 ixD (rVar 0) (rOf (eC (.int 1))))) (rOf (eC (.int 900)))))))) (sRet (eC (.bl false))) sNil) (sRet (eAnd (eCall [false, false] false F__law_are_unlike (aCons (rOf (eOp2 ixD (rVar 0) (rOf (eC (.int 2))))) (aCons (rOf (eC (.int 4))) aNil))) (eAnd (eOp2 neO (rOf (eOp2 ixD (rVar 0) (rOf (eC (.int 3))))) (rOf (eC (.str "any")))) (eOp2 neO (rOf (eOp2 ixD (rVar 0) (rOf (eC (.int 3))))) (rOf (eC (.str "fresh")))))))))
def F__law_is_song : List D → FRes := runF [false] 1 m__law_is_song
theorem fn__law_is_song {P : Program} {w : World} {K : PySem.W.Frag} {mg : Str → Option Value} {base : Heap} {f : Addr} {fd : FuncData} (D : FnP K "_law_is_song" S__law_is_song f fd)  (h__law_is_name : Has P w K mg base 1 "_law_is_name" [false] F__law_is_name) (h__law_are_unlike : Has P w K mg base 2 "_law_are_unlike" [false, false] F__law_are_unlike) (n_len : mg "len" = none) (n_isinstance : mg "isinstance" = none) (n_tuple : mg "tuple" = none) (n_bool : mg "bool" = none) (n_int : mg "int" = none) : FnOk P w K mg base (L2.CX P w) 3 f fd ["_law_x"] (spF K mg [false] F__law_is_song) := by
  refine fn_defD (k := 2) D sc__law_is_song rfl fun cdv A outer s H E hr => ?_
  have c := cd_of (X := cxOf (L2.CX P w) P w K mg base N__law_is_song "_law_is_song" (defScope S__law_is_song) f cdv A outer s H E) hr
  have tk := takes_of (X := cxOf (L2.CX P w) P w K mg base N__law_is_song "_law_is_song" (defScope S__law_is_song) f cdv A outer s H E) (E := E) rfl rfl rfl rfl
  have nd := sc__law_is_song.nd
  exact (dss_cons (ds_if (dt_w (dw_or (dt_not (dt_e (de_isT .tuple (dr_var (pv 0)) rfl n_isinstance rfl n_tuple bt_tuple))) (dw_or (dt_cmp (op_ne2 c) o_ne (dr_e (de_callB call_lenA f_len rfl n_len bt_len (da_cons (dr_var (pv 0)) da_nil))) (dr_e de_int) (by with_unfolding_all rfl)) (dw_or (dt_not (dt_e (de_callH h__law_is_name hr rfl tk (da_cons (dr_e (de_ix c (dr_var (pv 0)) (dr_e de_int))) da_nil) (by omega)))) (dw_or1 (dt_not (dt_e (de_callH h__law_is_name hr rfl tk (da_cons (dr_e (de_ix c (dr_var (pv 0)) (dr_e de_int))) da_nil) (by omega))))))))) (dss_one (ds_ret de_bl)) dss_nil) (dss_cons (ds_if (dt_w (dw_or (dt_not (dt_e (de_isT .int (dr_e (de_ix c (dr_var (pv 0)) (dr_e de_int))) rfl n_isinstance rfl n_int bt_int))) (dw_or (dt_e (de_isT .bool (dr_e (de_ix c (dr_var (pv 0)) (dr_e de_int))) rfl n_isinstance rfl n_bool bt_bool)) (dw_or1 (dt_not (dt_chain (op_le2 c) o_le2 (op_le2 c) o_le2 (dr_e de_int) (dr_e (de_ix c (dr_var (pv 0)) (dr_e de_int))) (dr_e de_int))))))) (dss_one (ds_ret de_bl)) dss_nil) (dss_one (ds_ret (de_and (de_callH h__law_are_unlike hr rfl tk (da_cons (dr_e (de_ix c (dr_var (pv 0)) (dr_e de_int))) (da_cons (dr_e de_int) da_nil)) (by omega)) (de_and (de_cmp (op_ne2 c) o_ne (dr_e (de_ix c (dr_var (pv 0)) (dr_e de_int))) (dr_e de_str) (by with_unfolding_all rfl)) (de_one (de_cmp (op_ne2 c) o_ne (dr_e (de_ix c (dr_var (pv 0)) (dr_e de_int))) (dr_e de_str) (by with_unfolding_all rfl)))))))))
theorem has__law_is_song {P : Program} {w : World} {K : PySem.W.Frag} {mg : Str → Option Value} {base : Heap} {f : Addr} {fd : FuncData} (D : FnP K "_law_is_song" S__law_is_song f fd) (g : mg "_law_is_song" = some (.ref f)) (h__law_is_name : Has P w K mg base 1 "_law_is_name" [false] F__law_is_name) (h__law_are_unlike : Has P w K mg base 2 "_law_are_unlike" [false, false] F__law_are_unlike) (n_len : mg "len" = none) (n_isinstance : mg "isinstance" = none) (n_tuple : mg "tuple" = none) (n_bool : mg "bool" = none) (n_int : mg "int" = none) : Has P w K mg base 3 "_law_is_song" [false] F__law_is_song :=
  has_of D (fn__law_is_song D h__law_is_name h__law_are_unlike n_len n_isinstance n_tuple n_bool n_int) g (fun _ _ _ _ _ _ us hl => match us, hl with | [_], _ => rfl)
/-! _law_is_bands -/
abbrev S__law_is_bands : Stmt := top 50
abbrev N__law_is_bands : List Str := ["_law_x", "_law_band"]
theorem sc__law_is_bands : FnScope N__law_is_bands ["_law_x"] (defScope S__law_is_bands) := ⟨rfl, rfl, rfl, by decide +kernel, rfl, by decide +kernel, by decide +kernel⟩
def m__law_is_bands : SM := (sSeq (sIf (tOrM (tNotM (tOfE (eIsT .tuple (rVar 0)))) (tOfE (eOp2 gt2 (rOf (eCallB lenD (aCons (rVar 0) aNil))) (rOf (eC (.int 6)))))) (sRet (eC (.bl false))) sNil) (sSeq (sFor (iVal (eVar 0)) (gNm 1) (sSeq (sIf (tOrM (tNotM (tOfE (eIsT .tuple (rVar 1)))) (tOrM (tOfE (eOp2 neO (rOf (eCallB lenD (aCons (rVar 1) aNil))) (rOf (eC (.int 2))))) (tNotM (tOfE (eCall [false] false F__law_is_name (aCons (rOf (eOp2 ixD (rVar 1) (rOf (eC (.int 0))))) aNil)))))) (sRet (eC (.bl false))) sNil) (sIf (tNotM (tOfE (eCall [false, false] false F__law_are_unlike (aCons (rOf (eOp2 ixD (rVar 1) (rOf (eC (.int 1))))) (aCons (rOf (eC (.int 6))) aNil))))) (sRet (eC (.bl false))) sNil))) (sRet (eOr (eOp2 eqO (rVar 0) (rOf (eTup lNil))) (eCall [false, false] false F__law_are_unlike (aCons (rOf (eCallB tuple3D (aCons (rOf (eComp (iVal (eVar 0)) (gNm 1) tYesM (eOp2 ixD (rVar 1) (rOf (eC (.int 0)))) [1])) aNil))) (aCons (rOf (eC (.int 6))) aNil)))))))
def F__law_is_bands : List D → FRes := runF [false] 2 m__law_is_bands
theorem fn__law_is_bands {P : Program} {w : World} {K : PySem.W.Frag} {mg : Str → Option Value} {base : Heap} {f : Addr} {fd : FuncData} (D : FnP K "_law_is_bands" S__law_is_bands f fd)  (h__law_is_name : Has P w K mg base 1 "_law_is_name" [false] F__law_is_name) (h__law_are_unlike : Has P w K mg base 2 "_law_are_unlike" [false, false] F__law_are_unlike) (n_len : mg "len" = none) (n_isinstance : mg "isinstance" = none) (n_tuple : mg "tuple" = none) : FnOk P w K mg base (L2.CX P w) 3 f fd ["_law_x"] (spF K mg [false] F__law_is_bands) := by
  refine fn_defD (k := 2) D sc__law_is_bands rfl fun cdv A outer s H E hr => ?_
  have c := cd_of (X := cxOf (L2.CX P w) P w K mg base N__law_is_bands "_law_is_bands" (defScope S__law_is_bands) f cdv A outer s H E) hr
  have tk := takes_of (X := cxOf (L2.CX P w) P w K mg base N__law_is_bands "_law_is_bands" (defScope S__law_is_bands) f cdv A outer s H E) (E := E) rfl rfl rfl rfl
  have nd := sc__law_is_bands.nd
  exact (dss_cons (ds_if (dt_w (dw_or (dt_not (dt_e (de_isT .tuple (dr_var (pv 0)) rfl n_isinstance rfl n_tuple bt_tuple))) (dw_or1 (dt_cmp (op_gt2 c) o_gt2 (dr_e (de_callB call_lenA f_len rfl n_len bt_len (da_cons (dr_var (pv 0)) da_nil))) (dr_e de_int) (by with_unfolding_all rfl))))) (dss_one (ds_ret de_bl)) dss_nil) (dss_cons (ds_for c (passes_of rfl) (di_val (de_var (pv 0))) (dg_name (i := 1) nd rfl (by first | exact Or.inl rfl | exact Or.inr rfl)) (dss_cons (ds_if (dt_w (dw_or (dt_not (dt_e (de_isT .tuple (dr_var (pv 1)) rfl n_isinstance rfl n_tuple bt_tuple))) (dw_or (dt_cmp (op_ne2 c) o_ne (dr_e (de_callB call_lenA f_len rfl n_len bt_len (da_cons (dr_var (pv 1)) da_nil))) (dr_e de_int) (by with_unfolding_all rfl)) (dw_or1 (dt_not (dt_e (de_callH h__law_is_name hr rfl tk (da_cons (dr_e (de_ix c (dr_var (pv 1)) (dr_e de_int))) da_nil) (by omega)))))))) (dss_one (ds_ret de_bl)) dss_nil) (dss_one (ds_if (dt_not (dt_e (de_callH h__law_are_unlike hr rfl tk (da_cons (dr_e (de_ix c (dr_var (pv 1)) (dr_e de_int))) (da_cons (dr_e de_int) da_nil)) (by omega)))) (dss_one (ds_ret de_bl)) dss_nil)))) (dss_one (ds_ret (de_or (de_cmp (op_eq2 c) o_eq (dr_var (pv 0)) (dr_e (de_tup dl_nil)) (by with_unfolding_all rfl)) (de_one (de_callH h__law_are_unlike hr rfl tk (da_cons (dr_e (de_callT (call_tup3 c.calm) f_tup3 rfl n_tuple bt_tuple (da_cons (dr_e (de_f (df_comp c nd (di_val (de_var (pv 0))) (blkOk_by (N := N__law_is_bands) (sc := defScope S__law_is_bands) (own := [("_law_band", 1)]) (by decide +kernel)) (fun _ _ _ _ _ => (dg_name (i := 1) nd rfl (by first | exact Or.inl rfl | exact Or.inr rfl))) (fun _ _ _ _ _ => dts_nil) (fun _ _ _ _ _ => (de_ix c.blk (dr_var (pv 1)) (dr_e de_int)))))) da_nil))) (da_cons (dr_e de_int) da_nil)) (by omega))))))))
theorem has__law_is_bands {P : Program} {w : World} {K : PySem.W.Frag} {mg : Str → Option Value} {base : Heap} {f : Addr} {fd : FuncData} (D : FnP K "_law_is_bands" S__law_is_bands f fd) (g : mg "_law_is_bands" = some (.ref f)) (h__law_is_name : Has P w K mg base 1 "_law_is_name" [false] F__law_is_name) (h__law_are_unlike : Has P w K mg base 2 "_law_are_unlike" [false, false] F__law_are_unlike) (n_len : mg "len" = none) (n_isinstance : mg "isinstance" = none) (n_tuple : mg "tuple" = none) : Has P w K mg base 3 "_law_is_bands" [false] F__law_is_bands :=
  has_of D (fn__law_is_bands D h__law_is_name h__law_are_unlike n_len n_isinstance n_tuple) g (fun _ _ _ _ _ _ us hl => match us, hl with | [_], _ => rfl)
/-! is_bands -/
abbrev S_is_bands : Stmt := top 34
abbrev N_is_bands : List Str := ["x", "band"]
theorem sc_is_bands : FnScope N_is_bands ["x"] (defScope S_is_bands) := ⟨rfl, rfl, rfl, by decide +kernel, rfl, by decide +kernel, by decide +kernel⟩
def m_is_bands : SM := (sSeq (sIf (tOrM (tNotM (tOfE (eIsT .tuple (rVar 0)))) (tOrM (tOfE (eOp2 gt2 (rOf (eCallB lenD (aCons (rVar 0) aNil))) (rOf (eC G_MOST_BANDS)))) (tNotM (tOfE (eCallB allD2 (aCons (rOf (eComp (iVal (eVar 0)) (gNm 1) tYesM (eCall [false] false F_is_band (aCons (rVar 1) aNil)) [1])) aNil)))))) (sRet (eC (.bl false))) sNil) (sRet (eOp2 eqO (rOf (eLenSet (eComp (iVal (eVar 0)) (gNm 1) tYesM (eOp2 ixD (rVar 1) (rOf (eC (.int 0)))) [1]))) (rOf (eCallB lenD (aCons (rVar 0) aNil))))))
def F_is_bands : List D → FRes := runF [false] 2 m_is_bands
theorem fn_is_bands {P : Program} {w : World} {K : PySem.W.Frag} {mg : Str → Option Value} {base : Heap} {f : Addr} {fd : FuncData} (D : FnP K "is_bands" S_is_bands f fd)  (h_is_band : Has P w K mg base 3 "is_band" [false] F_is_band) (v_MOST_BANDS : Gv K mg "MOST_BANDS" G_MOST_BANDS) (n_all : mg "all" = none) (n_len : mg "len" = none) (n_isinstance : mg "isinstance" = none) (n_tuple : mg "tuple" = none) (n_set : mg "set" = none) : FnOk P w K mg base (L2.CX P w) 4 f fd ["x"] (spF K mg [false] F_is_bands) := by
  refine fn_defD (k := 3) D sc_is_bands rfl fun cdv A outer s H E hr => ?_
  have c := cd_of (X := cxOf (L2.CX P w) P w K mg base N_is_bands "is_bands" (defScope S_is_bands) f cdv A outer s H E) hr
  have tk := takes_of (X := cxOf (L2.CX P w) P w K mg base N_is_bands "is_bands" (defScope S_is_bands) f cdv A outer s H E) (E := E) rfl rfl rfl rfl
  have nd := sc_is_bands.nd
  exact (dss_cons (ds_if (dt_w (dw_or (dt_not (dt_e (de_isT .tuple (dr_var (pv 0)) rfl n_isinstance rfl n_tuple bt_tuple))) (dw_or (dt_cmp (op_gt2 c) o_gt2 (dr_e (de_callB call_lenA f_len rfl n_len bt_len (da_cons (dr_var (pv 0)) da_nil))) (dr_e (de_glob v_MOST_BANDS rfl)) (by with_unfolding_all rfl)) (dw_or1 (dt_not (dt_e (de_callB (cr_all c.calm) f_all rfl n_all bt_all (da_cons (dr_e (de_f (df_comp c nd (di_val (de_var (pv 0))) (blkOk_by (N := N_is_bands) (sc := defScope S_is_bands) (own := [("band", 1)]) (by decide +kernel)) (fun _ _ _ _ _ => (dg_name (i := 1) nd rfl (by first | exact Or.inl rfl | exact Or.inr rfl))) (fun _ _ _ _ _ => dts_nil) (fun _ _ _ _ _ => (de_callH h_is_band hr rfl takes0 (da_cons (dr_var (pv 1)) da_nil) (by omega)))))) da_nil)))))))) (dss_one (ds_ret de_bl)) dss_nil) (dss_one (ds_ret (de_cmp (op_eq2 c) o_eq (dr_e (de_lenSet c rfl n_len rfl n_set (de_f (df_comp c nd (di_val (de_var (pv 0))) (blkOk_by (N := N_is_bands) (sc := defScope S_is_bands) (own := [("band", 1)]) (by decide +kernel)) (fun _ _ _ _ _ => (dg_name (i := 1) nd rfl (by first | exact Or.inl rfl | exact Or.inr rfl))) (fun _ _ _ _ _ => dts_nil) (fun _ _ _ _ _ => (de_ix c.blk (dr_var (pv 1)) (dr_e de_int))))))) (dr_e (de_callB call_lenA f_len rfl n_len bt_len (da_cons (dr_var (pv 0)) da_nil))) (by with_unfolding_all rfl)))))
theorem has_is_bands {P : Program} {w : World} {K : PySem.W.Frag} {mg : Str → Option Value} {base : Heap} {f : Addr} {fd : FuncData} (D : FnP K "is_bands" S_is_bands f fd) (g : mg "is_bands" = some (.ref f)) (h_is_band : Has P w K mg base 3 "is_band" [false] F_is_band) (v_MOST_BANDS : Gv K mg "MOST_BANDS" G_MOST_BANDS) (n_all : mg "all" = none) (n_len : mg "len" = none) (n_isinstance : mg "isinstance" = none) (n_tuple : mg "tuple" = none) (n_set : mg "set" = none) : Has P w K mg base 4 "is_bands" [false] F_is_bands :=
  has_of D (fn_is_bands D h_is_band v_MOST_BANDS n_all n_len n_isinstance n_tuple n_set) g (fun _ _ _ _ _ _ us hl => match us, hl with | [_], _ => rfl)
/-! _law_names -/
abbrev S__law_names : Stmt := top 51
abbrev N__law_names : List Str := ["_law_purse_here", "_law_letters", "_law_way", "_law_shift", "_law_k"]
theorem sc__law_names : FnScope N__law_names ["_law_purse_here"] (defScope S__law_names) := ⟨rfl, rfl, rfl, by decide +kernel, rfl, by decide +kernel, by decide +kernel⟩
def m__law_names : SM := (sSeq (sSet 1 (eC (.str "abcdefghijklmnopqrstuvwxyz"))) (sSeq (sAsg (eTup (lCons (eCall [true, false] false F__law_pick (aCons (rVar 0) (aCons (rOf (eC (.int 8))) aNil))) (lCons (eCall [true, false] false F__law_pick (aCons (rVar 0) (aCons (rOf (eC (.int 20))) aNil))) lNil))) (gTp 2 (gsCons (gNm 2) (gsCons (gNm 3) gsNil)))) (sSeq (sIf (tOfE (eOp2 lt2 (rVar 2) (rOf (eC (.int 2))))) (sRet (eCallB tuple3D (aCons (rOf (eComp (iRange1 (eC (.int 30))) (gNm 4) tYesM (eOp2 addD (rOf (eOp2 ixD (rVar 1) (rOf (eOp2 addD (rVar 3) (rOf (eOp2 modD (rVar 4) (rOf (eC (.int 6))))))))) (rOf (eOp2 ixD (rVar 1) (rOf (eOp2 fdivD (rVar 4) (rOf (eC (.int 6)))))))) [4])) aNil))) sNil) (sSeq (sIf (tOfE (eOp2 eqO (rVar 2) (rOf (eC (.int 2))))) (sRet (eCallB tuple3D (aCons (rOf (eComp (iRange1 (eC (.int 8))) (gNm 4) tYesM (eOp2 mul4 (rOf (eOp2 ixD (rVar 1) (rVar 3))) (rOf (eOp2 addD (rVar 4) (rOf (eC (.int 1)))))) [4])) aNil))) sNil) (sRet (eCall [true, false] false F__law_unlike (aCons (rVar 0) (aCons (rOf (eC (.int 6))) aNil))))))))
def F__law_names : List D → FRes := runF [true] 5 m__law_names
theorem fn__law_names {P : Program} {w : World} {K : PySem.W.Frag} {mg : Str → Option Value} {base : Heap} {f : Addr} {fd : FuncData} (D : FnP K "_law_names" S__law_names f fd)  (h__law_pick : Has P w K mg base 1 "_law_pick" [true, false] F__law_pick) (h__law_unlike : Has P w K mg base 3 "_law_unlike" [true, false] F__law_unlike) (n_range : mg "range" = none) (n_tuple : mg "tuple" = none) : FnOk P w K mg base (L2.CX P w) 4 f fd ["_law_purse_here"] (spF K mg [true] F__law_names) := by
  refine fn_defD (k := 3) D sc__law_names rfl fun cdv A outer s H E hr => ?_
  have c := cd_of (X := cxOf (L2.CX P w) P w K mg base N__law_names "_law_names" (defScope S__law_names) f cdv A outer s H E) hr
  have tk := takes_of (X := cxOf (L2.CX P w) P w K mg base N__law_names "_law_names" (defScope S__law_names) f cdv A outer s H E) (E := E) rfl rfl rfl rfl
  have nd := sc__law_names.nd
  exact (dss_cons (ds_set (i := 1) nd rfl (by first | exact Or.inl rfl | exact Or.inr rfl) de_str) (dss_cons (ds_asg (de_tup (dl_cons (de_callH h__law_pick hr rfl tk (da_cons (dr_var (pv 0)) (da_cons (dr_e de_int) da_nil)) (by omega)) (dl_cons (de_callH h__law_pick hr rfl tk (da_cons (dr_var (pv 0)) (da_cons (dr_e de_int) da_nil)) (by omega)) dl_nil))) (dg_tup (n := 2) c (dgs_cons (dg_name (i := 2) nd rfl (by first | exact Or.inl rfl | exact Or.inr rfl)) (dgs_cons (dg_name (i := 3) nd rfl (by first | exact Or.inl rfl | exact Or.inr rfl)) dgs_nil)))) (dss_cons (ds_if (dt_cmp (op_lt2 c) o_lt2 (dr_var (pv 2)) (dr_e de_int) (by with_unfolding_all rfl)) (dss_one (ds_ret (de_callT (call_tup3 c.calm) f_tup3 rfl n_tuple bt_tuple (da_cons (dr_e (de_f (df_comp c nd (di_range1 rfl n_range de_int) (blkOk_by (N := N__law_names) (sc := defScope S__law_names) (own := [("_law_k", 4)]) (by decide +kernel)) (fun _ _ _ _ _ => (dg_name (i := 4) nd rfl (by first | exact Or.inl rfl | exact Or.inr rfl))) (fun _ _ _ _ _ => dts_nil) (fun _ _ _ _ _ => (de_op op_add4 o_add (dr_e (de_ix c.blk (dr_var (pv 1)) (dr_e (de_op op_add4 o_add (dr_var (pv 3)) (dr_e (de_op op_mod o_mod (dr_var (pv 4)) (dr_e de_int))))))) (dr_e (de_ix c.blk (dr_var (pv 1)) (dr_e (de_op op_fdiv o_fdiv (dr_var (pv 4)) (dr_e de_int)))))))))) da_nil)))) dss_nil) (dss_cons (ds_if (dt_cmp (op_eq2 c) o_eq (dr_var (pv 2)) (dr_e de_int) (by with_unfolding_all rfl)) (dss_one (ds_ret (de_callT (call_tup3 c.calm) f_tup3 rfl n_tuple bt_tuple (da_cons (dr_e (de_f (df_comp c nd (di_range1 rfl n_range de_int) (blkOk_by (N := N__law_names) (sc := defScope S__law_names) (own := [("_law_k", 4)]) (by decide +kernel)) (fun _ _ _ _ _ => (dg_name (i := 4) nd rfl (by first | exact Or.inl rfl | exact Or.inr rfl))) (fun _ _ _ _ _ => dts_nil) (fun _ _ _ _ _ => (de_op op_mul4 o_mul4 (dr_e (de_ix c.blk (dr_var (pv 1)) (dr_var (pv 3)))) (dr_e (de_op op_add4 o_add (dr_var (pv 4)) (dr_e de_int)))))))) da_nil)))) dss_nil) (dss_one (ds_ret (de_callH h__law_unlike hr rfl tk (da_cons (dr_var (pv 0)) (da_cons (dr_e de_int) da_nil)) (by omega))))))))
theorem has__law_names {P : Program} {w : World} {K : PySem.W.Frag} {mg : Str → Option Value} {base : Heap} {f : Addr} {fd : FuncData} (D : FnP K "_law_names" S__law_names f fd) (g : mg "_law_names" = some (.ref f)) (h__law_pick : Has P w K mg base 1 "_law_pick" [true, false] F__law_pick) (h__law_unlike : Has P w K mg base 3 "_law_unlike" [true, false] F__law_unlike) (n_range : mg "range" = none) (n_tuple : mg "tuple" = none) : Has P w K mg base 4 "_law_names" [true] F__law_names :=
  has_of D (fn__law_names D h__law_pick h__law_unlike n_range n_tuple) g (fun _ _ _ _ _ _ us hl => match us, hl with | [_], _ => rfl)
/-! _law_due -/
abbrev S__law_due : Stmt := top 53
abbrev N__law_due : List Str := ["_law_bands", "_law_song", "_law_heard", "_law_band", "_law_name", "_law_k"]
theorem sc__law_due : FnScope N__law_due ["_law_bands", "_law_song"] (defScope S__law_due) := ⟨rfl, rfl, rfl, by decide +kernel, rfl, by decide +kernel, by decide +kernel⟩
def m__law_due : SM := (sSeq (sIf (tNotM (tOfE (eCall [false] false F__law_is_bands (aCons (rVar 0) aNil)))) (sRet (eTup (lCons (eC (.str "refused")) (lCons (eC (.str "bands")) (lCons (eC (.int 0)) lNil))))) sNil) (sSeq (sIf (tNotM (tOfE (eCall [false] false F__law_is_song (aCons (rVar 1) aNil)))) (sRet (eTup (lCons (eC (.str "refused")) (lCons (eC (.str "song")) (lCons (eC (.int 0)) lNil))))) sNil) (sSeq (sSet 2 (eCallB listD (aCons (rOf (eOp2 ixD (rVar 1) (rOf (eC (.int 2))))) aNil))) (sSeq (sFor (iVal (eVar 0)) (gNm 3) (sSet 2 (eOp2 catD (rVar 2) (rOf (eComp (iVal (eOp2 ixD (rVar 3) (rOf (eC (.int 1))))) (gNm 4) (tOfE (eOp2 inD (rOf (eOp2 ixD (rVar 3) (rOf (eC (.int 0))))) (rOf (eOp2 ixD (rVar 1) (rOf (eC (.int 2))))))) (eVar 4) [4]))))) (sRet (eCallB tuple3D (aCons (rOf (eCallB sortedM (aCons (rOf (eComp (iEnumM (eVar 2)) (gTp 2 (gsCons (gNm 5) (gsCons (gNm 4) gsNil))) (tOfE (eOp2 notInD (rVar 4) (rOf (eSl (rVar 2) oNo (oSome (eVar 5)))))) (eVar 4) [5, 4])) aNil))) aNil)))))))
def F__law_due : List D → FRes := runF [false, false] 6 m__law_due
theorem fn__law_due {P : Program} {w : World} {K : PySem.W.Frag} {mg : Str → Option Value} {base : Heap} {f : Addr} {fd : FuncData} (D : FnP K "_law_due" S__law_due f fd)  (h__law_is_bands : Has P w K mg base 3 "_law_is_bands" [false] F__law_is_bands) (h__law_is_song : Has P w K mg base 3 "_law_is_song" [false] F__law_is_song) (n_list : mg "list" = none) (n_enumerate : mg "enumerate" = none) (n_sorted : mg "sorted" = none) (n_tuple : mg "tuple" = none) : FnOk P w K mg base (L2.CX P w) 4 f fd ["_law_bands", "_law_song"] (spF K mg [false, false] F__law_due) := by
  refine fn_defD (k := 3) D sc__law_due rfl fun cdv A outer s H E hr => ?_
  have c := cd_of (X := cxOf (L2.CX P w) P w K mg base N__law_due "_law_due" (defScope S__law_due) f cdv A outer s H E) hr
  have tk := takes_of (X := cxOf (L2.CX P w) P w K mg base N__law_due "_law_due" (defScope S__law_due) f cdv A outer s H E) (E := E) rfl rfl rfl rfl
  have nd := sc__law_due.nd
  exact (dss_cons (ds_if (dt_not (dt_e (de_callH h__law_is_bands hr rfl tk (da_cons (dr_var (pv 0)) da_nil) (by omega)))) (dss_one (ds_ret (de_tup (dl_cons de_str (dl_cons de_str (dl_cons de_int dl_nil)))))) dss_nil) (dss_cons (ds_if (dt_not (dt_e (de_callH h__law_is_song hr rfl tk (da_cons (dr_var (pv 1)) da_nil) (by omega)))) (dss_one (ds_ret (de_tup (dl_cons de_str (dl_cons de_str (dl_cons de_int dl_nil)))))) dss_nil) (dss_cons (ds_set (i := 2) nd rfl (by first | exact Or.inl rfl | exact Or.inr rfl) (de_f (df_callT call_list_of f_list rfl n_list bt_list (da_cons (dr_e (de_ix c (dr_var (pv 1)) (dr_e de_int))) da_nil)))) (dss_cons (ds_for c (passes_of rfl) (di_val (de_var (pv 0))) (dg_name (i := 3) nd rfl (by first | exact Or.inl rfl | exact Or.inr rfl)) (dss_one (ds_set (i := 2) nd rfl (by first | exact Or.inl rfl | exact Or.inr rfl) (de_f (df_op op_cat o_cat (dr_var (pv 2)) (dr_e (de_f (df_comp c nd (di_val (de_ix c (dr_var (pv 3)) (dr_e de_int))) (blkOk_by (N := N__law_due) (sc := defScope S__law_due) (own := [("_law_name", 4)]) (by decide +kernel)) (fun _ _ _ _ _ => (dg_name (i := 4) nd rfl (by first | exact Or.inl rfl | exact Or.inr rfl))) (fun _ _ _ _ _ => (dts_one (dt_cmp (op_in c.blk) o_in (dr_e (de_ix c.blk (dr_var (pv 3)) (dr_e de_int))) (dr_e (de_ix c.blk (dr_var (pv 1)) (dr_e de_int))) (by with_unfolding_all rfl)))) (fun _ _ _ _ _ => (de_var (pv 4))))))))))) (dss_one (ds_ret (de_callT (call_tup3 c.calm) f_tup3 rfl n_tuple bt_tuple (da_cons (dr_e (de_f (df_callB cr_sortedM f_sortedM rfl n_sorted bt_sorted (da_cons (dr_e (de_f (df_comp c nd (di_enum rfl n_enumerate (de_var (pv 2))) (blkOk_by (N := N__law_due) (sc := defScope S__law_due) (own := [("_law_k", 5), ("_law_name", 4)]) (by decide +kernel)) (fun _ _ _ _ _ => (dg_tup (n := 2) c.blk (dgs_cons (dg_name (i := 5) nd rfl (by first | exact Or.inl rfl | exact Or.inr rfl)) (dgs_cons (dg_name (i := 4) nd rfl (by first | exact Or.inl rfl | exact Or.inr rfl)) dgs_nil)))) (fun _ _ _ _ _ => (dts_one (dt_cmp (op_notIn c.blk) o_notIn (dr_var (pv 4)) (dr_e (de_sl (dr_var (pv 2)) do_none (do_some (de_var (pv 5))))) (by with_unfolding_all rfl)))) (fun _ _ _ _ _ => (de_var (pv 4)))))) da_nil)))) da_nil))))))))
theorem has__law_due {P : Program} {w : World} {K : PySem.W.Frag} {mg : Str → Option Value} {base : Heap} {f : Addr} {fd : FuncData} (D : FnP K "_law_due" S__law_due f fd) (g : mg "_law_due" = some (.ref f)) (h__law_is_bands : Has P w K mg base 3 "_law_is_bands" [false] F__law_is_bands) (h__law_is_song : Has P w K mg base 3 "_law_is_song" [false] F__law_is_song) (n_list : mg "list" = none) (n_enumerate : mg "enumerate" = none) (n_sorted : mg "sorted" = none) (n_tuple : mg "tuple" = none) : Has P w K mg base 4 "_law_due" [false, false] F__law_due :=
  has_of D (fn__law_due D h__law_is_bands h__law_is_song n_list n_enumerate n_sorted n_tuple) g (fun _ _ _ _ _ _ us hl => match us, hl with | [_, _], _ => rfl)
/-! voices -/
abbrev S_voices : Stmt := top 36
abbrev N_voices : List Str := ["bands", "song"]
theorem sc_voices : FnScope N_voices ["bands", "song"] (defScope S_voices) := ⟨rfl, rfl, rfl, by decide +kernel, rfl, by decide +kernel, by decide +kernel⟩
def m_voices : SM := (sSeq (sIf (tNotM (tOfE (eCall [false] false F_is_bands (aCons (rVar 0) aNil)))) (sRaise "NoBands") sNil) (sSeq (sIf (tNotM (tOfE (eCall [false] false F_is_song (aCons (rVar 1) aNil)))) (sRaise "NoSong") sNil) (sRet (eCall [false, false] false F_voices_of (aCons (rVar 0) (aCons (rOf (eOp2 ixD (rVar 1) (rOf (eC (.int 2))))) aNil))))))
def F_voices : List D → FRes := runF [false, false] 2 m_voices
theorem fn_voices {P : Program} {w : World} {K : PySem.W.Frag} {mg : Str → Option Value} {base : Heap} {f : Addr} {fd : FuncData} (D : FnP K "voices" S_voices f fd)  (h_is_bands : Has P w K mg base 4 "is_bands" [false] F_is_bands) (h_is_song : Has P w K mg base 3 "is_song" [false] F_is_song) (h_voices_of : Has P w K mg base 1 "voices_of" [false, false] F_voices_of) (xf : ClsF K mg CS TS) : FnOk P w K mg base (L2.CX P w) 5 f fd ["bands", "song"] (spF K mg [false, false] F_voices) := by
  refine fn_defD (k := 4) D sc_voices rfl fun cdv A outer s H E hr => ?_
  have c := cd_of (X := cxOf (L2.CX P w) P w K mg base N_voices "voices" (defScope S_voices) f cdv A outer s H E) hr
  have tk := takes_of (X := cxOf (L2.CX P w) P w K mg base N_voices "voices" (defScope S_voices) f cdv A outer s H E) (E := E) rfl rfl rfl rfl
  have nd := sc_voices.nd
  exact (dss_cons (ds_if (dt_not (dt_e (de_callH h_is_bands hr rfl tk (da_cons (dr_var (pv 0)) da_nil) (by omega)))) (dss_one (ds_raiseF c tk xf rfl rfl)) dss_nil) (dss_cons (ds_if (dt_not (dt_e (de_callH h_is_song hr rfl tk (da_cons (dr_var (pv 1)) da_nil) (by omega)))) (dss_one (ds_raiseF c tk xf rfl rfl)) dss_nil) (dss_one (ds_ret (de_callH h_voices_of hr rfl tk (da_cons (dr_var (pv 0)) (da_cons (dr_e (de_ix c (dr_var (pv 1)) (dr_e de_int))) da_nil)) (by omega))))))
theorem has_voices {P : Program} {w : World} {K : PySem.W.Frag} {mg : Str → Option Value} {base : Heap} {f : Addr} {fd : FuncData} (D : FnP K "voices" S_voices f fd) (g : mg "voices" = some (.ref f)) (h_is_bands : Has P w K mg base 4 "is_bands" [false] F_is_bands) (h_is_song : Has P w K mg base 3 "is_song" [false] F_is_song) (h_voices_of : Has P w K mg base 1 "voices_of" [false, false] F_voices_of) (xf : ClsF K mg CS TS) : Has P w K mg base 5 "voices" [false, false] F_voices :=
  has_of D (fn_voices D h_is_bands h_is_song h_voices_of xf) g (fun _ _ _ _ _ _ us hl => match us, hl with | [_, _], _ => rfl)
/-! _law_right -/
abbrev S__law_right : Stmt := top 54
abbrev N__law_right : List Str := ["_law_bands", "_law_song", "_law_due_here", "_law_turn", "_law_e", "_law_told"]
theorem sc__law_right : FnScope N__law_right ["_law_bands", "_law_song"] (defScope S__law_right) := ⟨rfl, rfl, rfl, by decide +kernel, rfl, by decide +kernel, by decide +kernel⟩
def m__law_right : SM := (sSeq (sSet 2 (eCall [false, false] false F__law_due (aCons (rVar 0) (aCons (rVar 1) aNil)))) (sSeq (sFor (iRange1 (eC (.int 2))) (gNm 3) (sSeq (sTry CS 4 (sSet 5 (eCall [false, false] false F_voices (aCons (rVar 0) (aCons (rVar 1) aNil)))) (sSet 5 (eTup (lCons (eC (.str "refused")) (lCons (eCall [false] false F__law_sort (aCons (rVar 4) aNil)) (lCons (eC (.int 0)) lNil)))))) (sIf (tOrM (tNotM (tOfE (eIsT .tuple (rVar 5)))) (tOfE (eOp2 neO (rVar 5) (rVar 2)))) (sRet (eC (.bl false))) sNil))) (sRet (eC (.bl true)))))
def F__law_right : List D → FRes := runF [false, false] 6 m__law_right
theorem fn__law_right {P : Program} {w : World} {K : PySem.W.Frag} {mg : Str → Option Value} {base : Heap} {f : Addr} {fd : FuncData} (D : FnP K "_law_right" S__law_right f fd)  (h__law_due : Has P w K mg base 4 "_law_due" [false, false] F__law_due) (h_voices : Has P w K mg base 5 "voices" [false, false] F_voices) (h__law_sort : HasT P w K mg base 1 "_law_sort" [false] F__law_sort) (xf : ClsF K mg CS TS) (n_range : mg "range" = none) (n_isinstance : mg "isinstance" = none) (n_tuple : mg "tuple" = none) : FnOk P w K mg base (L2.CX P w) 6 f fd ["_law_bands", "_law_song"] (spF K mg [false, false] F__law_right) := by
  refine fn_defD (k := 5) D sc__law_right rfl fun cdv A outer s H E hr => ?_
  have c := cd_of (X := cxOf (L2.CX P w) P w K mg base N__law_right "_law_right" (defScope S__law_right) f cdv A outer s H E) hr
  have tk := takes_of (X := cxOf (L2.CX P w) P w K mg base N__law_right "_law_right" (defScope S__law_right) f cdv A outer s H E) (E := E) rfl rfl rfl rfl
  have nd := sc__law_right.nd
  exact (dss_cons (ds_set (i := 2) nd rfl (by first | exact Or.inl rfl | exact Or.inr rfl) (de_callH h__law_due hr rfl tk (da_cons (dr_var (pv 0)) (da_cons (dr_var (pv 1)) da_nil)) (by omega))) (dss_cons (ds_for c (passes_of rfl) (di_range1 rfl n_range de_int) (dg_name (i := 3) nd rfl (by first | exact Or.inl rfl | exact Or.inr rfl)) (dss_cons (ds_try (i := 4) rfl rfl nd rfl rfl ⟨rfl, by decide, .inl xf.te⟩ rfl xf.tryF (fun _ pn xe tk1 po => (dss_one (ds_set (i := 5) nd rfl (by first | exact Or.inl rfl | exact Or.inr rfl) (de_callH h_voices hr rfl tk1 (da_cons (dr_var (pv 0)) (da_cons (dr_var (pv 1)) da_nil)) (by omega))))) (fun _ pn => (dss_one (ds_set (i := 5) nd rfl (by first | exact Or.inl rfl | exact Or.inr rfl) (de_tup (dl_cons de_str (dl_cons (de_callX h__law_sort (room_suite hr) rfl (da_cons (dr_var (pv 4)) da_nil) (by omega)) (dl_cons de_int dl_nil)))))))) (dss_one (ds_if (dt_w (dw_or (dt_not (dt_e (de_isT .tuple (dr_var (pv 5)) rfl n_isinstance rfl n_tuple bt_tuple))) (dw_or1 (dt_cmp (op_ne2 c) o_ne (dr_var (pv 5)) (dr_var (pv 2)) (by with_unfolding_all rfl))))) (dss_one (ds_ret de_bl)) dss_nil)))) (dss_one (ds_ret de_bl))))
theorem has__law_right {P : Program} {w : World} {K : PySem.W.Frag} {mg : Str → Option Value} {base : Heap} {f : Addr} {fd : FuncData} (D : FnP K "_law_right" S__law_right f fd) (g : mg "_law_right" = some (.ref f)) (h__law_due : Has P w K mg base 4 "_law_due" [false, false] F__law_due) (h_voices : Has P w K mg base 5 "voices" [false, false] F_voices) (h__law_sort : HasT P w K mg base 1 "_law_sort" [false] F__law_sort) (xf : ClsF K mg CS TS) (n_range : mg "range" = none) (n_isinstance : mg "isinstance" = none) (n_tuple : mg "tuple" = none) : Has P w K mg base 6 "_law_right" [false, false] F__law_right :=
  has_of D (fn__law_right D h__law_due h_voices h__law_sort xf n_range n_isinstance n_tuple) g (fun _ _ _ _ _ _ us hl => match us, hl with | [_, _], _ => rfl)
/-! _law_turned -/
abbrev S__law_turned : Stmt := top 46
abbrev N__law_turned : List Str := ["_law_purse_here", "_law_thing", "_law_at", "_law_some_here"]
theorem sc__law_turned : FnScope N__law_turned ["_law_purse_here", "_law_thing"] (defScope S__law_turned) := ⟨rfl, rfl, rfl, by decide +kernel, rfl, by decide +kernel, by decide +kernel⟩
def m__law_turned (Fr : List D → FRes) : SM := (sSeq (sIf (tNotM (tOfE (eIsT .tuple (rVar 1)))) (sRet (eCall [true, false] false F__law_odd (aCons (rVar 0) (aCons (rVar 1) aNil)))) sNil) (sSeq (sSet 2 (eCall [true, false] false F__law_pick (aCons (rVar 0) (aCons (rOf (eOp2 addD (rOf (eCallB lenD (aCons (rVar 1) aNil))) (rOf (eC (.int 1))))) aNil)))) (sSeq (sIf (tAndM (tOfE (eOp2 lt2 (rVar 2) (rOf (eCallB lenD (aCons (rVar 1) aNil))))) (tOfE (eOp2 gt2 (rOf (eCall [true, false] false F__law_pick (aCons (rVar 0) (aCons (rOf (eC (.int 4))) aNil)))) (rOf (eC (.int 0)))))) (sRet (eOp2 addD (rOf (eOp2 addD (rOf (eSl (rVar 1) oNo (oSome (eVar 2)))) (rOf (eTup (lCons (eCall [true, false] false Fr (aCons (rVar 0) (aCons (rOf (eOp2 ixD (rVar 1) (rVar 2))) aNil))) lNil))))) (rOf (eSl (rVar 1) (oSome (eOp2 addD (rVar 2) (rOf (eC (.int 1))))) oNo)))) sNil) (sSeq (sSet 3 (eLst (lCons (eOp2 addD (rOf (eSl (rVar 1) oNo (oSome (eVar 2)))) (rOf (eSl (rVar 1) (oSome (eOp2 addD (rVar 2) (rOf (eC (.int 1))))) oNo))) (lCons (eOp2 addD (rOf (eOp2 addD (rOf (eSl (rVar 1) oNo (oSome (eVar 2)))) (rOf (eSl (rVar 1) (oSome (eVar 2)) (oSome (eOp2 addD (rVar 2) (rOf (eC (.int 1))))))))) (rOf (eSl (rVar 1) (oSome (eVar 2)) oNo))) (lCons (eCallB listD (aCons (rVar 1) aNil)) lNil))))) (sSeq (sSet 3 (eOp2 catD (rVar 3) (rOf (eLst (lCons (eRev (rVar 1)) (lCons (eTup (lCons (eVar 1) lNil)) lNil)))))) (sRet (eOp2 ixD (rOf (eOp2 catD (rVar 3) (rOf (eLst (lCons (eOp2 addD (rOf (eOp2 addD (rOf (eSl (rVar 1) oNo (oSome (eVar 2)))) (rOf (eTup (lCons (eCall [true, false] false F__law_odd (aCons (rVar 0) (aCons (rOf (eC .non)) aNil))) lNil))))) (rOf (eSl (rVar 1) (oSome (eVar 2)) oNo))) (lCons (eTup lNil) lNil)))))) (rOf (eCall [true, false] false F__law_pick (aCons (rVar 0) (aCons (rOf (eC (.int 7))) aNil)))))))))))
def F__law_turned : List D → FRes := recF [true, false] 4 m__law_turned 8
theorem fn__law_turned {P : Program} {w : World} {K : PySem.W.Frag} {mg : Str → Option Value} {base : Heap} {f : Addr} {fd : FuncData} (D : FnP K "_law_turned" S__law_turned f fd) (g : mg "_law_turned" = some (.ref f)) (h__law_odd : Has P w K mg base 2 "_law_odd" [true, false] F__law_odd) (h__law_pick : Has P w K mg base 1 "_law_pick" [true, false] F__law_pick) (n_isinstance : mg "isinstance" = none) (n_tuple : mg "tuple" = none) (n_len : mg "len" = none) (n_list : mg "list" = none) : FnOk P w K mg base (L2.CX P w) 11 f fd ["_law_purse_here", "_law_thing"] (spF K mg [true, false] F__law_turned) := by
  refine fn_recD (k0 := 3) (N := N__law_turned) D sc__law_turned rfl g (fun _ _ _ _ _ _ us hl => match us, hl with | [_, _], _ => rfl) (fun Fr k hk hself cdv A outer s H E hr => ?_) 8
  have c := cd_of (X := cxOf (L2.CX P w) P w K mg base N__law_turned "_law_turned" (defScope S__law_turned) f cdv A outer s H E) hr
  have tk := takes_of (X := cxOf (L2.CX P w) P w K mg base N__law_turned "_law_turned" (defScope S__law_turned) f cdv A outer s H E) (E := E) rfl rfl rfl rfl
  have nd := sc__law_turned.nd
  exact (dss_cons (ds_if (dt_not (dt_e (de_isT .tuple (dr_var (pv 1)) rfl n_isinstance rfl n_tuple bt_tuple))) (dss_one (ds_ret (de_callH h__law_odd hr rfl tk (da_cons (dr_var (pv 0)) (da_cons (dr_var (pv 1)) da_nil)) (by omega)))) dss_nil) (dss_cons (ds_set (i := 2) nd rfl (by first | exact Or.inl rfl | exact Or.inr rfl) (de_callH h__law_pick hr rfl tk (da_cons (dr_var (pv 0)) (da_cons (dr_e (de_op op_add4 o_add (dr_e (de_callB call_lenA f_len rfl n_len bt_len (da_cons (dr_var (pv 1)) da_nil))) (dr_e de_int))) da_nil)) (by omega))) (dss_cons (ds_if (dt_w (dw_and (dt_cmp (op_lt2 c) o_lt2 (dr_var (pv 2)) (dr_e (de_callB call_lenA f_len rfl n_len bt_len (da_cons (dr_var (pv 1)) da_nil))) (by with_unfolding_all rfl)) (dw_and1 (dt_cmp (op_gt2 c) o_gt2 (dr_e (de_callH h__law_pick hr rfl tk (da_cons (dr_var (pv 0)) (da_cons (dr_e de_int) da_nil)) (by omega))) (dr_e de_int) (by with_unfolding_all rfl))))) (dss_one (ds_ret (de_op op_add4 o_add (dr_e (de_op op_add4 o_add (dr_e (de_sl (dr_var (pv 1)) do_none (do_some (de_var (pv 2))))) (dr_e (de_tup (dl_cons (de_callH hself hr rfl tk (da_cons (dr_var (pv 0)) (da_cons (dr_e (de_ix c (dr_var (pv 1)) (dr_var (pv 2)))) da_nil)) (by omega)) dl_nil))))) (dr_e (de_sl (dr_var (pv 1)) (do_some (de_op op_add4 o_add (dr_var (pv 2)) (dr_e de_int))) do_none))))) dss_nil) (dss_cons (ds_set (i := 3) nd rfl (by first | exact Or.inl rfl | exact Or.inr rfl) (de_f (df_lst (dl_cons (de_op op_add4 o_add (dr_e (de_sl (dr_var (pv 1)) do_none (do_some (de_var (pv 2))))) (dr_e (de_sl (dr_var (pv 1)) (do_some (de_op op_add4 o_add (dr_var (pv 2)) (dr_e de_int))) do_none))) (dl_cons (de_op op_add4 o_add (dr_e (de_op op_add4 o_add (dr_e (de_sl (dr_var (pv 1)) do_none (do_some (de_var (pv 2))))) (dr_e (de_sl (dr_var (pv 1)) (do_some (de_var (pv 2))) (do_some (de_op op_add4 o_add (dr_var (pv 2)) (dr_e de_int))))))) (dr_e (de_sl (dr_var (pv 1)) (do_some (de_var (pv 2))) do_none))) (dl_cons (de_f (df_callT call_list_of f_list rfl n_list bt_list (da_cons (dr_var (pv 1)) da_nil))) dl_nil)))))) (dss_cons (ds_set (i := 3) nd rfl (by first | exact Or.inl rfl | exact Or.inr rfl) (de_f (df_op op_cat o_cat (dr_var (pv 3)) (dr_e (de_f (df_lst (dl_cons (de_rev (dr_var (pv 1))) (dl_cons (de_tup (dl_cons (de_var (pv 1)) dl_nil)) dl_nil)))))))) (dss_one (ds_ret (de_ix c (dr_e (de_f (df_op op_cat o_cat (dr_var (pv 3)) (dr_e (de_f (df_lst (dl_cons (de_op op_add4 o_add (dr_e (de_op op_add4 o_add (dr_e (de_sl (dr_var (pv 1)) do_none (do_some (de_var (pv 2))))) (dr_e (de_tup (dl_cons (de_callH h__law_odd hr rfl tk (da_cons (dr_var (pv 0)) (da_cons (dr_e de_non) da_nil)) (by omega)) dl_nil))))) (dr_e (de_sl (dr_var (pv 1)) (do_some (de_var (pv 2))) do_none))) (dl_cons (de_tup dl_nil) dl_nil)))))))) (dr_e (de_callH h__law_pick hr rfl tk (da_cons (dr_var (pv 0)) (da_cons (dr_e de_int) da_nil)) (by omega)))))))))))
theorem has__law_turned {P : Program} {w : World} {K : PySem.W.Frag} {mg : Str → Option Value} {base : Heap} {f : Addr} {fd : FuncData} (D : FnP K "_law_turned" S__law_turned f fd) (g : mg "_law_turned" = some (.ref f)) (h__law_odd : Has P w K mg base 2 "_law_odd" [true, false] F__law_odd) (h__law_pick : Has P w K mg base 1 "_law_pick" [true, false] F__law_pick) (n_isinstance : mg "isinstance" = none) (n_tuple : mg "tuple" = none) (n_len : mg "len" = none) (n_list : mg "list" = none) : Has P w K mg base 11 "_law_turned" [true, false] F__law_turned :=
  has_of D (fn__law_turned D g h__law_odd h__law_pick n_isinstance n_tuple n_len n_list) g (fun _ _ _ _ _ _ us hl => match us, hl with | [_, _], _ => rfl)
/-! law -/
abbrev S_law : Stmt := top 55
abbrev N_law : List Str := ["_law_script", "_law_k", "_law_purse_here", "_law_names_here", "_law_own", "_law_bands", "_law_song", "_law_turned_here", "_law_turn", "_law_odd_here", "_law_bad", "_law_one", "_law_other", "_law_name"]
theorem sc_law : FnScope N_law ["_law_script"] (defScope S_law) := ⟨rfl, rfl, rfl, by decide +kernel, rfl, by decide +kernel, by decide +kernel⟩
def m_law : SM := (sSeq (sFor (iRange1 (eCallB max2D (aCons (rOf (eC (.int 2))) (aCons (rOf (eCallB min2D (aCons (rOf (eC (.int 10))) (aCons (rOf (eCallB lenD (aCons (rVar 0) aNil))) aNil)))) aNil)))) (gNm 1) (sSeq (sSetO 2 (eCall [false] true F__law_purse (aCons (rOf (eCall [false, false] false F__law_cell (aCons (rVar 0) (aCons (rVar 1) aNil)))) aNil))) (sSeq (sSet 3 (eCall [true] false F__law_names (aCons (rVar 2) aNil))) (sSeq (sSet 4 (eCall [true, false, false, false] false F__law_some (aCons (rVar 2) (aCons (rVar 3) (aCons (rOf (eC (.int 0))) (aCons (rOf (eC (.int 6))) aNil)))))) (sSeq (sSet 5 (eCallB tuple3D (aCons (rOf (eComp (iVal (eVar 4)) (gNm 13) tYesM (eTup (lCons (eVar 13) (lCons (eCall [true, false, false, false] false F__law_some (aCons (rVar 2) (aCons (rVar 3) (aCons (rOf (eC (.int 1))) (aCons (rOf (eC (.int 6))) aNil))))) lNil))) [13])) aNil))) (sSeq (sSet 6 (eTup (lCons (eCall [true] false F__law_any_name (aCons (rVar 2) aNil)) (lCons (eOp2 addD (rOf (eC (.int 60))) (rOf (eCall [true, false] false F__law_pick (aCons (rVar 2) (aCons (rOf (eC (.int 841))) aNil))))) (lCons (eCall [true, false, false, false] false F__law_some (aCons (rVar 2) (aCons (rVar 3) (aCons (rOf (eC (.int 1))) (aCons (rOf (eC (.int 4))) aNil))))) (lCons (eCall [true] false F__law_kind (aCons (rVar 2) aNil)) lNil)))))) (sSeq (sSet 7 (eOp2 addD (rOf (eOp2 addD (rOf (eSl (rVar 6) oNo (oSome (eC (.int 2))))) (rOf (eTup (lCons (eRev (rOf (eOp2 ixD (rVar 6) (rOf (eC (.int 2)))))) lNil))))) (rOf (eSl (rVar 6) (oSome (eC (.int 3))) oNo)))) (sSeq (sIf (tOrM (tNotM (tOfE (eCall [false, false] false F__law_right (aCons (rVar 5) (aCons (rVar 6) aNil))))) (tOrM (tNotM (tOfE (eCall [false, false] false F__law_right (aCons (rOf (eRev (rVar 5))) (aCons (rVar 6) aNil))))) (tNotM (tOfE (eCall [false, false] false F__law_right (aCons (rVar 5) (aCons (rVar 7) aNil))))))) (sRet (eC (.bl false))) sNil) (sFor (iRange1 (eC (.int 3))) (gNm 8) (sSeq (sPar 9 10 (lCons (eCall [true, false] false F__law_turned (aCons (rVar 2) (aCons (rVar 5) aNil))) (lCons (eCall [true, false] false F__law_turned (aCons (rVar 2) (aCons (rVar 6) aNil))) lNil))) (sFor (iVal (eLst (lCons (eTup (lCons (eVar 9) (lCons (eVar 6) lNil))) (lCons (eTup (lCons (eVar 5) (lCons (eVar 10) lNil))) (lCons (eTup (lCons (eVar 9) (lCons (eVar 10) lNil))) lNil))))) (gTp 2 (gsCons (gNm 11) (gsCons (gNm 12) gsNil))) (sIf (tNotM (tOfE (eCall [false, false] false F__law_right (aCons (rVar 11) (aCons (rVar 12) aNil))))) (sRet (eC (.bl false))) sNil)))))))))))) (sRet (eAnd (eCall [false, false] false F__law_right (aCons (rOf (eTup lNil)) (aCons (rOf (eTup (lCons (eC (.str "a")) (lCons (eC (.int 60)) (lCons (eTup (lCons (eC (.str "b")) lNil)) (lCons (eC (.str "c")) lNil)))))) aNil))) (eAnd (eCall [false, false] false F__law_right (aCons (rOf (eC .non)) (aCons (rOf (eC .non)) aNil))) (eCall [false, false] false F__law_right (aCons (rOf (eTup lNil)) (aCons (rOf (eC .non)) aNil)))))))
def F_law : List D → FRes := runF [false] 14 m_law
theorem fn_law {P : Program} {w : World} {K : PySem.W.Frag} {mg : Str → Option Value} {base : Heap} {f : Addr} {fd : FuncData} (D : FnP K "law" S_law f fd)  (h__law_cell : Has P w K mg base 1 "_law_cell" [false, false] F__law_cell) (h__law_purse : Has P w K mg base 1 "_law_purse" [false] F__law_purse) (h__law_names : Has P w K mg base 4 "_law_names" [true] F__law_names) (h__law_some : Has P w K mg base 2 "_law_some" [true, false, false, false] F__law_some) (h__law_any_name : Has P w K mg base 2 "_law_any_name" [true] F__law_any_name) (h__law_pick : Has P w K mg base 1 "_law_pick" [true, false] F__law_pick) (h__law_kind : Has P w K mg base 3 "_law_kind" [true] F__law_kind) (h__law_right : Has P w K mg base 6 "_law_right" [false, false] F__law_right) (h__law_turned : Has P w K mg base 11 "_law_turned" [true, false] F__law_turned) (n_range : mg "range" = none) (n_len : mg "len" = none) (n_min : mg "min" = none) (n_max : mg "max" = none) (n_tuple : mg "tuple" = none) : FnOk P w K mg base (L2.CX P w) 12 f fd ["_law_script"] (spF K mg [false] F_law) := by
  refine fn_defD (k := 11) D sc_law rfl fun cdv A outer s H E hr => ?_
  have c := cd_of (X := cxOf (L2.CX P w) P w K mg base N_law "law" (defScope S_law) f cdv A outer s H E) hr
  have tk := takes_of (X := cxOf (L2.CX P w) P w K mg base N_law "law" (defScope S_law) f cdv A outer s H E) (E := E) rfl rfl rfl rfl
  have nd := sc_law.nd
  exact (dss_cons (ds_for c (passes_of rfl) (di_range1 rfl n_range (de_callB (call_max2 c.calm) f_max2 rfl n_max bt_max (da_cons (dr_e de_int) (da_cons (dr_e (de_callB (call_min2 c.calm) f_min2 rfl n_min bt_min (da_cons (dr_e de_int) (da_cons (dr_e (de_callB call_lenA f_len rfl n_len bt_len (da_cons (dr_var (pv 0)) da_nil))) da_nil)))) da_nil)))) (dg_name (i := 1) nd rfl (by first | exact Or.inl rfl | exact Or.inr rfl)) (dss_cons (ds_setO (i := 2) nd rfl (by first | exact Or.inl rfl | exact Or.inr rfl) (df_callH h__law_purse hr rfl tk (da_cons (dr_e (de_callH h__law_cell hr rfl tk (da_cons (dr_var (pv 0)) (da_cons (dr_var (pv 1)) da_nil)) (by omega))) da_nil) (by omega))) (dss_cons (ds_set (i := 3) nd rfl (by first | exact Or.inl rfl | exact Or.inr rfl) (de_callH h__law_names hr rfl tk (da_cons (dr_var (pv 2)) da_nil) (by omega))) (dss_cons (ds_set (i := 4) nd rfl (by first | exact Or.inl rfl | exact Or.inr rfl) (de_callH h__law_some hr rfl tk (da_cons (dr_var (pv 2)) (da_cons (dr_var (pv 3)) (da_cons (dr_e de_int) (da_cons (dr_e de_int) da_nil)))) (by omega))) (dss_cons (ds_set (i := 5) nd rfl (by first | exact Or.inl rfl | exact Or.inr rfl) (de_callT (call_tup3 c.calm) f_tup3 rfl n_tuple bt_tuple (da_cons (dr_e (de_f (df_comp c nd (di_val (de_var (pv 4))) (blkOk_by (N := N_law) (sc := defScope S_law) (own := [("_law_name", 13)]) (by decide +kernel)) (fun _ _ _ _ _ => (dg_name (i := 13) nd rfl (by first | exact Or.inl rfl | exact Or.inr rfl))) (fun _ _ _ _ _ => dts_nil) (fun _ _ _ _ _ => (de_tup (dl_cons (de_var (pv 13)) (dl_cons (de_callH h__law_some hr rfl takes0 (da_cons (dr_var (pv 2)) (da_cons (dr_var (pv 3)) (da_cons (dr_e de_int) (da_cons (dr_e de_int) da_nil)))) (by omega)) dl_nil))))))) da_nil))) (dss_cons (ds_set (i := 6) nd rfl (by first | exact Or.inl rfl | exact Or.inr rfl) (de_tup (dl_cons (de_callH h__law_any_name hr rfl tk (da_cons (dr_var (pv 2)) da_nil) (by omega)) (dl_cons (de_op op_add4 o_add (dr_e de_int) (dr_e (de_callH h__law_pick hr rfl tk (da_cons (dr_var (pv 2)) (da_cons (dr_e de_int) da_nil)) (by omega)))) (dl_cons (de_callH h__law_some hr rfl tk (da_cons (dr_var (pv 2)) (da_cons (dr_var (pv 3)) (da_cons (dr_e de_int) (da_cons (dr_e de_int) da_nil)))) (by omega)) (dl_cons (de_callH h__law_kind hr rfl tk (da_cons (dr_var (pv 2)) da_nil) (by omega)) dl_nil)))))) (dss_cons (ds_set (i := 7) nd rfl (by first | exact Or.inl rfl | exact Or.inr rfl) (de_op op_add4 o_add (dr_e (de_op op_add4 o_add (dr_e (de_sl (dr_var (pv 6)) do_none (do_some de_int))) (dr_e (de_tup (dl_cons (de_rev (dr_e (de_ix c (dr_var (pv 6)) (dr_e de_int)))) dl_nil))))) (dr_e (de_sl (dr_var (pv 6)) (do_some de_int) do_none)))) (dss_cons (ds_if (dt_w (dw_or (dt_not (dt_e (de_callH h__law_right hr rfl tk (da_cons (dr_var (pv 5)) (da_cons (dr_var (pv 6)) da_nil)) (by omega)))) (dw_or (dt_not (dt_e (de_callH h__law_right hr rfl tk (da_cons (dr_e (de_rev (dr_var (pv 5)))) (da_cons (dr_var (pv 6)) da_nil)) (by omega)))) (dw_or1 (dt_not (dt_e (de_callH h__law_right hr rfl tk (da_cons (dr_var (pv 5)) (da_cons (dr_var (pv 7)) da_nil)) (by omega)))))))) (dss_one (ds_ret de_bl)) dss_nil) (dss_one (ds_for c (passes_of rfl) (di_range1 rfl n_range de_int) (dg_name (i := 8) nd rfl (by first | exact Or.inl rfl | exact Or.inr rfl)) (dss_cons (ds_par (i := 9) (j := 10) c nd rfl rfl (by decide) rfl rfl (dl_cons (de_callH h__law_turned hr rfl tk (da_cons (dr_var (pv 2)) (da_cons (dr_var (pv 5)) da_nil)) (by omega)) (dl_cons (de_callH h__law_turned hr rfl tk (da_cons (dr_var (pv 2)) (da_cons (dr_var (pv 6)) da_nil)) (by omega)) dl_nil)) (by rfl)) (dss_one (ds_for c (passes_of rfl) (di_val (de_f (df_lst (dl_cons (de_tup (dl_cons (de_var (pv 9)) (dl_cons (de_var (pv 6)) dl_nil))) (dl_cons (de_tup (dl_cons (de_var (pv 5)) (dl_cons (de_var (pv 10)) dl_nil))) (dl_cons (de_tup (dl_cons (de_var (pv 9)) (dl_cons (de_var (pv 10)) dl_nil))) dl_nil)))))) (dg_tup (n := 2) c (dgs_cons (dg_name (i := 11) nd rfl (by first | exact Or.inl rfl | exact Or.inr rfl)) (dgs_cons (dg_name (i := 12) nd rfl (by first | exact Or.inl rfl | exact Or.inr rfl)) dgs_nil))) (dss_one (ds_if (dt_not (dt_e (de_callH h__law_right hr rfl tk (da_cons (dr_var (pv 11)) (da_cons (dr_var (pv 12)) da_nil)) (by omega)))) (dss_one (ds_ret de_bl)) dss_nil))))))))))))))) (dss_one (ds_ret (de_and (de_callH h__law_right hr rfl tk (da_cons (dr_e (de_tup dl_nil)) (da_cons (dr_e (de_tup (dl_cons de_str (dl_cons de_int (dl_cons (de_tup (dl_cons de_str dl_nil)) (dl_cons de_str dl_nil)))))) da_nil)) (by omega)) (de_and (de_callH h__law_right hr rfl tk (da_cons (dr_e de_non) (da_cons (dr_e de_non) da_nil)) (by omega)) (de_one (de_callH h__law_right hr rfl tk (da_cons (dr_e (de_tup dl_nil)) (da_cons (dr_e de_non) da_nil)) (by omega))))))))
theorem has_law {P : Program} {w : World} {K : PySem.W.Frag} {mg : Str → Option Value} {base : Heap} {f : Addr} {fd : FuncData} (D : FnP K "law" S_law f fd) (g : mg "law" = some (.ref f)) (h__law_cell : Has P w K mg base 1 "_law_cell" [false, false] F__law_cell) (h__law_purse : Has P w K mg base 1 "_law_purse" [false] F__law_purse) (h__law_names : Has P w K mg base 4 "_law_names" [true] F__law_names) (h__law_some : Has P w K mg base 2 "_law_some" [true, false, false, false] F__law_some) (h__law_any_name : Has P w K mg base 2 "_law_any_name" [true] F__law_any_name) (h__law_pick : Has P w K mg base 1 "_law_pick" [true, false] F__law_pick) (h__law_kind : Has P w K mg base 3 "_law_kind" [true] F__law_kind) (h__law_right : Has P w K mg base 6 "_law_right" [false, false] F__law_right) (h__law_turned : Has P w K mg base 11 "_law_turned" [true, false] F__law_turned) (n_range : mg "range" = none) (n_len : mg "len" = none) (n_min : mg "min" = none) (n_max : mg "max" = none) (n_tuple : mg "tuple" = none) : Has P w K mg base 12 "law" [false] F_law :=
  has_of D (fn_law D h__law_cell h__law_purse h__law_names h__law_some h__law_any_name h__law_pick h__law_kind h__law_right h__law_turned n_range n_len n_min n_max n_tuple) g (fun _ _ _ _ _ _ us hl => match us, hl with | [_], _ => rfl)
end NV

set_option Elab.async false
set_option linter.all false
set_option maxRecDepth 100000
set_option maxHeartbeats 4000000
/-! Purse: the drawn numbers, the cells. -/
namespace NV
open PySem PySem.Spec PyProof.Rows L2
def purse (a b c : Int) : D := .lst [.int a, .int b, .int c]
def nextA (a c : Int) : Int := a % 999999937 * (a % 999999937 % 30013 + 20011) + 70001 * (c + 1)
theorem pick_eq (a b c n : Int) (h0 : 0 < n) (h1 : n < 1073741824) : F__law_pick [purse a b c, .int n] =
    if 0 < b then .ok (.int (b % n)) [purse (nextA a c) (b / n) (c + 1)] else .ok (.int (nextA a c % 999999937 / 8 % n)) [purse (nextA a c) b (c + 1)] := by
  have hs : 0 ≤ a % 999999937 ∧ a % 999999937 < 999999937 := ⟨Int.emod_nonneg _ (by decide), Int.emod_lt_of_pos _ (by decide)⟩
  have m1 : mulD (.int (a % 999999937)) (.int (a % 999999937 % 30013 + 20011)) = some (.int (a % 999999937 * (a % 999999937 % 30013 + 20011))) := mulD_int (.inl (by omega))
  have m2 : ∀ c : Int, mulD (.int 70001) (.int c) = some (.int (70001 * c)) := fun c => mulD_int (.inl (by decide))
  have m3 : ∀ a : Int, modD (.int a) (.int 999999937) = some (.int (a % 999999937)) := fun a => modD_int (by decide)
  have m4 : ∀ a : Int, modD (.int a) (.int 30013) = some (.int (a % 30013)) := fun a => modD_int (by decide)
  have m5 : ∀ a : Int, modD (.int a) (.int n) = some (.int (a % n)) := fun a => modD_int h0
  have m6 : ∀ a : Int, fdivD (.int a) (.int n) = some (.int (a / n)) := fun a => fdivD_int h0 h1
  have m7 : ∀ a : Int, fdivD (.int a) (.int 8) = some (.int (a / 8)) := fun a => fdivD_int (by decide) (by decide)
  by_cases hb : 0 < b
  · simp [F__law_pick, m__law_pick, purse, nextA, sSetIx, ixD, L2.atI, ixN, ownSet, m1, m2, m3, m4, m5, m6, m7, hb]
  · simp [F__law_pick, m__law_pick, purse, nextA, sSetIx, ixD, L2.atI, ixN, ownSet, m1, m2, m3, m4, m5, m6, m7, hb]
theorem pick_ok (a b c n : Int) (h0 : 0 < n) (h1 : n < 1073741824) : ∃ a' b' c' r, F__law_pick [purse a b c, .int n] = .ok (.int r) [purse a' b' c'] ∧ 0 ≤ r ∧ r < n := by
  rw [pick_eq a b c n h0 h1]
  split
  · exact ⟨_, _, _, _, rfl, Int.emod_nonneg _ (by omega), Int.emod_lt_of_pos _ h0⟩
  · exact ⟨_, _, _, _, rfl, Int.emod_nonneg _ (by omega), Int.emod_lt_of_pos _ h0⟩
/-- the purse's three numbers -/
structure Pu where
  a : Int
  b : Int
  c : Int
def Pu.d (s : Pu) : D := .lst [.int s.a, .int s.b, .int s.c]
theorem pick_pu (s : Pu) (n : Int) (h0 : 0 < n) (h1 : n < 1073741824) : ∃ (s' : Pu) (r : Int), F__law_pick [s.d, .int n] = .ok (.int r) [s'.d] ∧ 0 ≤ r ∧ r < n := by
  obtain ⟨a, b, c, r, h, h2, h3⟩ := pick_ok s.a s.b s.c n h0 h1
  exact ⟨⟨a, b, c⟩, r, h, h2, h3⟩
/-- the call of it, at slot 0 -/
theorem pick_call (s : Pu) (ρ : Env) (n : Int) (h0 : 0 < n) (h1 : n < 1073741824) : ∃ (s' : Pu) (r : Int), callG [true, false] false F__law_pick [.own 0, .val (.int n)] (.p s.d :: ρ) = .ok (.int r) (.p s'.d :: ρ) ∧ 0 ≤ r ∧ r < n := by
  obtain ⟨s', r, h, h2, h3⟩ := pick_pu s n h0 h1
  exact ⟨s', r, call_own (i := 0) rfl rfl h rfl, h2, h3⟩
theorem cell_ok (ns : List Int) (k : Int) (h0 : 0 ≤ k) (h1 : k < 1000) : ∃ v, F__law_cell [.scr ns, .int k] = .ok (.int v) [] := by
  by_cases hk : k < ns.length
  · have ix : ∃ v, ixD (.scr ns) (.int k) = some (.int v) := by
      have hl : k.toNat < ns.length := by omega
      refine ⟨ns[k.toNat], ?_⟩
      show (L2.atI ns k).map D.int = _
      simp [L2.atI, ixN, h0, hk, List.getElem?_eq_getElem hl]
    obtain ⟨v, ix⟩ := ix
    exact ⟨v, by simp [F__law_cell, m__law_cell, lenD, hk, ix]⟩
  · have m1 : mulD (.int k) (.int k) = some (.int (k * k)) := mulD_int (.inl (by omega))
    have m2 : ∀ j : Int, mulD (.int 5) (.int j) = some (.int (5 * j)) := fun j => mulD_int (.inl (by decide))
    have m3 : ∀ j : Int, mulD (.int 60013) (.int j) = some (.int (60013 * j)) := fun j => mulD_int (.inl (by decide))
    have m4 : ∀ a : Int, modD (.int a) (.int 1000000007) = some (.int (a % 1000000007)) := fun a => modD_int (by decide)
    have m5 : ∀ j : Int, mulD (.int j) (.int 30011) = some (.int (j * 30011)) := fun j => mulD_int (.inr (by decide))
    have sl : slD (.scr ns) none (some 4) = some (.lst ((cutL ns none (some 4)).map D.int)) := rfl
    obtain ⟨ρ', e, st, x, he⟩ := for_inv (g := gNm 3) (body := sSet 2 (eOp2 modD (rOf (eOp2 addD (rOf (eOp2 mulD (rVar 2) (rOf (eC (.int 30011))))) (rVar 3))) (rOf (eC (.int 1000000007))))) (fun ρ => ∃ (st : Int) (x : Slot), ρ = [.v (.scr ns), .v (.int k), .v (.int st), x]) ((cutL ns none (some 4)).map D.int)
      (fun d hd ρ ⟨st, x, hr⟩ => by
        obtain ⟨i, _, rfl⟩ := List.mem_map.mp hd
        subst hr
        exact ⟨_, [.v (.scr ns), .v (.int k), .v (.int ((st * 30011 + i) % 1000000007)), .v (.int i)], rfl, .inl (by simp [m4, m5]), _, _, rfl⟩) [.v (.scr ns), .v (.int k), .v (.int (60013 * (k * k + 5 * k + 3) % 1000000007)), .no] ⟨_, _, rfl⟩
    subst he
    exact ⟨st, by simp [F__law_cell, m__law_cell, lenD, hk, m1, m2, m3, m4, eSl, oNo, oSome, asI, sl, e]⟩
theorem purse_ok (v : Int) : ∃ s : Pu, F__law_purse [.int v] = .okF s.d [] := by
  have m1 : ∀ a : Int, modD (.int a) (.int 999999937) = some (.int (a % 999999937)) := fun a => modD_int (by decide)
  have m2 : ∀ j : Int, mulD (.int j) (.int 7907) = some (.int (j * 7907)) := fun j => mulD_int (.inr (by decide))
  have m3 : powD (.int 10) (.int 18) = some (.int (10 ^ 18)) := by
    show (if CPow 10 18 then _ else none) = _
    rw [if_pos ⟨by decide, by decide, by decide⟩]
    rfl
  by_cases h : (1000000000000000000 : Int) ≤ v
  · exact ⟨⟨v % 999999937 * 7907 + 4409, v, 0⟩, by simp [F__law_purse, m__law_purse, m1, m2, m3, intD, h, ixD, L2.atI, ixN, Pu.d]⟩
  · exact ⟨⟨v % 999999937 * 7907 + 4409, 0, 0⟩, by simp [F__law_purse, m__law_purse, m1, m2, m3, intD, h, ixD, L2.atI, ixN, Pu.d]⟩
end NV

set_option Elab.async false
set_option linter.all false
set_option maxRecDepth 100000
set_option maxHeartbeats 4000000
namespace NV
open PySem PySem.Spec PyProof.Rows L2
def LET : Str := "abcdefghijklmnopqrstuvwxyz"
def signOk (x : Str) : Bool := x.cps.toList.all fun c => inS ⟨#[c]⟩ LET
def nameS (x : Str) : Bool := decide ((1 : Int) ≤ (x.length : Int)) && decide ((x.length : Int) ≤ 8) && signOk x
def nameB : D → Bool
  | .str x => nameS x
  | _ => false
def noExn : D → Bool
  | .exn _ _ => false
  | _ => true
theorem comp_D {mt : TM} {me : EM} {i : Nat} (e : Slot → Env) (hset : ∀ x y, (e x).set i y = e y) (ds : List D) (f : D → D) (ht : ∀ d ∈ ds, mt (e (.v d)) = .ok true (e (.v d))) (he : ∀ d ∈ ds, me (e (.v d)) = .ok (f d) (e (.v d))) (x : Slot) :
    ∃ y, compL (gNm i) mt me [i] ds [] (e x) = .ok (ds.map f) (e y) := by
  obtain ⟨y, h⟩ := comp_pure e hset (fun _ => true) f ds ht (fun d hd _ => he d hd) [] x
  refine ⟨y, ?_⟩
  rw [h, List.filter_eq_self.mpr fun _ _ => rfl, List.nil_append]
theorem blsOf_map {α : Type} (l : List α) (p : α → Bool) : blsOf (l.map fun a => D.bl (p a)) = some (l.map p) := by
  induction l with
  | nil => rfl
  | cons a l ih =>
    show (blsOf (l.map fun a => D.bl (p a))).map _ = _
    rw [ih]
    rfl
theorem all_map {α : Type} (l : List α) (p : α → Bool) : allD2 [.lst (l.map fun a => D.bl (p a))] = some (.bl (l.all p)) := by
  show (blsOf (l.map fun a => D.bl (p a))).map _ = _
  rw [blsOf_map]
  simp [List.all_map]
theorem in_sign (c : Nat) (z : Str) : inD (.str ⟨#[c]⟩) (.str z) = some (.bl (inS ⟨#[c]⟩ z)) := rfl
theorem is_name_eq (d : D) (hd : noExn d = true) : F_is_name [d] = .ok (.bl (nameB d)) [] := by
  cases d with
  | str x =>
    obtain ⟨y, e⟩ := comp_D (mt := tYesM) (me := eOp2 inD (rVar 1) (rOf (eC G_LETTERS))) (i := 1) (fun s => [.v (.str x), s]) (fun _ _ => rfl) (x.cps.toList.map fun c => D.str ⟨#[c]⟩) (fun d => match d with
      | .str z => .bl (inS z LET)
      | _ => .non) (fun d _ => by simp) (fun d hd => by
        obtain ⟨c, _, rfl⟩ := List.mem_map.mp hd
        simp [G_LETTERS, in_sign]
        rfl) .no
    rw [List.map_map] at e
    have it : itemsD (.str x) = some (x.cps.toList.map fun c => D.str ⟨#[c]⟩) := rfl
    have al : allD2 [.lst (x.cps.toList.map fun c => D.bl (inS ⟨#[c]⟩ LET))] = some (.bl (signOk x)) := all_map x.cps.toList fun c => inS ⟨#[c]⟩ LET
    have e' : compL (gNm 1) tYesM (eOp2 inD (rVar 1) (rOf (eC G_LETTERS))) [1] (x.cps.toList.map fun c => D.str ⟨#[c]⟩) [] [.v (.str x), .no] = .ok (x.cps.toList.map fun c => D.bl (inS ⟨#[c]⟩ LET)) [.v (.str x), y] := e
    by_cases h1 : (1 : Int) ≤ (x.length : Int)
    · by_cases h2 : (x.length : Int) ≤ 8
      · simp [F_is_name, m_is_name, isT, lenD, G_MOST_LETTERS, it, e', al, nameB, nameS, h1, h2, backE, wipeE, keepV]
      · simp [F_is_name, m_is_name, isT, lenD, G_MOST_LETTERS, nameB, nameS, h1, h2]
    · simp [F_is_name, m_is_name, isT, lenD, G_MOST_LETTERS, nameB, nameS, h1]
  | exn _ _ => cases hd
  | _ => simp [F_is_name, m_is_name, isT, nameB]
end NV

set_option Elab.async false
set_option linter.all false
set_option maxRecDepth 100000
set_option maxHeartbeats 4000000
namespace NV
open PySem PySem.Spec PyProof.Rows L2
theorem law_is_name_eq (d : D) (hd : noExn d = true) : F__law_is_name [d] = .ok (.bl (nameB d)) [] := by
  cases d with
  | str x =>
    obtain ⟨y, e⟩ := comp_D (mt := tYesM) (me := eOp2 inD (rVar 1) (rOf (eC (.str "abcdefghijklmnopqrstuvwxyz")))) (i := 1) (fun s => [.v (.str x), s]) (fun _ _ => rfl) (x.cps.toList.map fun c => D.str ⟨#[c]⟩) (fun d => match d with
      | .str z => .bl (inS z LET)
      | _ => .non) (fun d _ => by simp) (fun d hd => by
        obtain ⟨c, _, rfl⟩ := List.mem_map.mp hd
        simp [in_sign]
        rfl) .no
    rw [List.map_map] at e
    have it : itemsD (.str x) = some (x.cps.toList.map fun c => D.str ⟨#[c]⟩) := rfl
    have al : allD2 [.lst (x.cps.toList.map fun c => D.bl (inS ⟨#[c]⟩ LET))] = some (.bl (signOk x)) := all_map x.cps.toList fun c => inS ⟨#[c]⟩ LET
    have e' : compL (gNm 1) tYesM (eOp2 inD (rVar 1) (rOf (eC (.str "abcdefghijklmnopqrstuvwxyz")))) [1] (x.cps.toList.map fun c => D.str ⟨#[c]⟩) [] [.v (.str x), .no] = .ok (x.cps.toList.map fun c => D.bl (inS ⟨#[c]⟩ LET)) [.v (.str x), y] := e
    by_cases h1 : (0 : Int) < (x.length : Int)
    · have h1' : (1 : Int) ≤ (x.length : Int) := by omega
      have h1n : 0 < x.length := by omega
      by_cases h2 : (x.length : Int) < 9
      · have h2' : (x.length : Int) ≤ 8 := by omega
        simp [F__law_is_name, m__law_is_name, isT, lenD, it, e', al, nameB, nameS, h1n, h1, h2, h1', h2', backE, wipeE, keepV]
      · have h2' : ¬ (x.length : Int) ≤ 8 := by omega
        simp [F__law_is_name, m__law_is_name, isT, lenD, nameB, nameS, h1n, h1, h2, h1', h2']
    · have h1' : ¬ (1 : Int) ≤ (x.length : Int) := by omega
      have h1n : ¬ 0 < x.length := by omega
      simp [F__law_is_name, m__law_is_name, isT, lenD, nameB, nameS, h1n, h1, h1']
  | exn _ _ => cases hd
  | _ => simp [F__law_is_name, m__law_is_name, isT, nameB]
/-! ### rows of names -/
def toS : D → Str
  | .str x => x
  | _ => ⟨#[]⟩
theorem strsOf_names : ∀ {xs : List D}, xs.all nameB = true → strsOf xs = some (xs.map toS) ∧ xs = (xs.map toS).map D.str
  | [], _ => ⟨rfl, rfl⟩
  | d :: xs, h => by
    rw [List.all_cons, Bool.and_eq_true] at h
    obtain ⟨h1, h2⟩ := strsOf_names h.2
    cases d with
    | str x =>
      refine ⟨?_, by rw [List.map_cons, List.map_cons, ← h2]; rfl⟩
      show (strsOf xs).map _ = _
      rw [h1]
      rfl
    | _ => exact absurd h.1 (by simp [nameB])
theorem foldS_nodup : ∀ (xs acc : List Str), ((xs.foldl NVS.stepS acc).length = acc.length + xs.length ↔ xs.Nodup ∧ ∀ x ∈ xs, x ∉ acc)
  | [], acc => by simp
  | x :: xs, acc => by
    rw [List.foldl_cons]
    have ih := foldS_nodup xs (NVS.stepS acc x)
    have le := NVS.foldS_len xs (NVS.stepS acc x)
    by_cases h : x ∈ acc
    · have e : NVS.stepS acc x = acc := if_pos h
      rw [e] at le ⊢
      constructor
      · intro z; rw [List.length_cons] at z; omega
      · intro z; exact absurd h (z.2 x List.mem_cons_self)
    · have e : NVS.stepS acc x = acc ++ [x] := if_neg h
      rw [e] at ih ⊢
      have el : (acc ++ [x]).length = acc.length + 1 := by simp
      rw [el] at ih
      rw [List.length_cons, show acc.length + (xs.length + 1) = acc.length + 1 + xs.length by omega, ih, List.nodup_cons]
      constructor
      · rintro ⟨h1, h2⟩
        refine ⟨⟨fun z => ?_, h1⟩, fun y hy => ?_⟩
        · exact h2 x z (by simp)
        · rcases List.mem_cons.mp hy with z | z
          · subst z; exact h
          · intro q; exact h2 y z (by simp [q])
      · rintro ⟨⟨h1, h2⟩, h3⟩
        refine ⟨h2, fun y hy q => ?_⟩
        rcases List.mem_append.mp q with q | q
        · exact h3 y (List.mem_cons_of_mem _ hy) q
        · have : y = x := by simpa using q
          subst this
          exact h1 hy
theorem dd_nodup (xs : List Str) : (NVS.dd xs).length = xs.length ↔ xs.Nodup := by
  have h := foldS_nodup xs []
  unfold NVS.dd
  simpa using h
theorem take_nodup (l : List Str) : ((List.range l.length).all fun i => !decide (l.getD i ⟨#[]⟩ ∈ l.take i)) = decide l.Nodup := by
  rw [Bool.eq_iff_iff, List.all_eq_true, decide_eq_true_iff]
  constructor
  · intro h
    rw [List.Nodup, List.pairwise_iff_getElem]
    intro i j hi hj lt e
    have := h j (List.mem_range.mpr hj)
    simp only [Bool.not_eq_true', decide_eq_false_iff_not, List.getD_eq_getElem?_getD, List.getElem?_eq_getElem hj, Option.getD_some] at this
    refine this ?_
    rw [← e]
    exact List.mem_take_iff_getElem.mpr ⟨i, by omega, rfl⟩
  · intro h i hi
    have hi := List.mem_range.mp hi
    simp only [Bool.not_eq_true', decide_eq_false_iff_not, List.getD_eq_getElem?_getD, List.getElem?_eq_getElem hi, Option.getD_some]
    intro z
    obtain ⟨j, hj, e⟩ := List.mem_take_iff_getElem.mp z
    rw [List.Nodup, List.pairwise_iff_getElem] at h
    exact h j i (by omega) hi (by omega) e
def namesB (most : Int) : D → Bool
  | .tup xs => decide ((1 : Int) ≤ (xs.length : Int)) && decide ((xs.length : Int) ≤ most) && xs.all nameB && decide ((xs.map toS).Nodup)
  | _ => false
/-- a tuple of few things that are no errors -/
def okTup : D → Bool
  | .tup xs => xs.all noExn && decide (xs.length < 4000)
  | d => noExn d
theorem okTup_noExn {d : D} (h : okTup d = true) : noExn d = true := by
  cases d <;> first | rfl | exact h
theorem name_call (d : D) (hd : noExn d = true) (ρ : Env) : callG [false] false F_is_name [.val d] ρ = .ok (.bl (nameB d)) ρ := call_val rfl rfl (is_name_eq d hd) (.inl rfl)
theorem lname_call (d : D) (hd : noExn d = true) (ρ : Env) : callG [false] false F__law_is_name [.val d] ρ = .ok (.bl (nameB d)) ρ := call_val rfl rfl (law_is_name_eq d hd) (.inl rfl)
theorem are_names_eq (d : D) (most : Int) (hd : okTup d = true) : F_are_names [d, .int most] = .ok (.bl (namesB most d)) [] := by
  cases d with
  | tup xs =>
    have hd' := hd
    unfold okTup at hd'
    rw [Bool.and_eq_true] at hd'
    have few := of_decide_eq_true hd'.2
    obtain ⟨y, e⟩ := comp_D (mt := tYesM) (me := eCall [false] false F_is_name (aCons (rVar 2) aNil)) (i := 2) (fun s => [.v (.tup xs), .v (.int most), s]) (fun _ _ => rfl) xs (fun d => .bl (nameB d)) (fun d _ => by simp) (fun d hd => by
      simp [name_call d (List.all_eq_true.mp hd'.1 d hd)]) .no
    have al : allD2 [.lst (xs.map fun d => D.bl (nameB d))] = some (.bl (xs.all nameB)) := all_map xs nameB
    by_cases h1 : (1 : Int) ≤ (xs.length : Int)
    · by_cases h2 : (xs.length : Int) ≤ most
      · cases h3 : xs.all nameB with
        | true =>
          have hs := (strsOf_names h3).1
          have hl : lenSetD (.tup xs) = some (.int (NVS.dd (xs.map toS)).length) := by
            show (strsOf xs).bind _ = _
            rw [hs]
            show (if _ then _ else _) = _
            rw [if_pos (by rw [List.length_map]; exact few)]
          have hn := dd_nodup (xs.map toS)
          rw [List.length_map] at hn
          simp [F_are_names, m_are_names, isT, lenD, h1, h2, e, al, h3, backE, wipeE, keepV, eLenSet, hl, namesB]
          rw [← hn]
          omega
        | false =>
          simp [F_are_names, m_are_names, isT, lenD, h1, h2, e, al, h3, backE, wipeE, keepV, namesB]
      · simp [F_are_names, m_are_names, isT, lenD, h1, h2, namesB]
    · simp [F_are_names, m_are_names, isT, lenD, h1, namesB]
  | exn _ _ => cases hd
  | _ => simp [F_are_names, m_are_names, isT, namesB]
end NV

set_option Elab.async false
set_option linter.all false
set_option maxRecDepth 100000
set_option maxHeartbeats 4000000
namespace NV
open PySem PySem.Spec PyProof.Rows L2
theorem eqD_str (x y : Str) : eqD (.str x) (.str y) = decide (x = y) := by
  unfold eqD
  simp only [toPy, PyData.eqv]
  by_cases h : x = y <;> simp [h]
theorem okL_strs (n : Nat) : ∀ l : List Str, okL n (l.map D.str) = true
  | [] => by cases n <;> rfl
  | i :: l => by
    show (okD n (.str i) && okL n (l.map D.str)) = true
    rw [okL_strs n l]
    cases n <;> rfl
theorem any_strs (k : Str) : ∀ l : List Str, anyD (.str k) (l.map D.str) = decide (k ∈ l)
  | [] => rfl
  | i :: l => by
    have ih := any_strs k l
    unfold anyD at ih ⊢
    rw [List.map_cons, List.any_cons, ih, eqD_str]
    by_cases h : i = k
    · subst h; simp
    · have h' : ¬ k = i := fun z => h z.symm
      by_cases h2 : k ∈ l <;> simp [h, h', h2]
theorem in_strs (k : Str) (l : List Str) : inD (.str k) (.tup (l.map D.str)) = some (.bl (decide (k ∈ l))) := by
  show ((if okD 60 (.str k) = true ∧ okL 60 (l.map D.str) = true then some (anyD (.str k) (l.map D.str)) else none).map D.bl) = _
  rw [if_pos ⟨rfl, okL_strs 60 l⟩, any_strs]
  rfl
theorem in_strsL (k : Str) (l : List Str) : inD (.str k) (.lst (l.map D.str)) = some (.bl (decide (k ∈ l))) := by
  show ((if okD 60 (.str k) = true ∧ okL 60 (l.map D.str) = true then some (anyD (.str k) (l.map D.str)) else none).map D.bl) = _
  rw [if_pos ⟨rfl, okL_strs 60 l⟩, any_strs]
  rfl
theorem notIn_strs (k : Str) (l : List Str) : notInD (.str k) (.tup (l.map D.str)) = some (.bl (!decide (k ∈ l))) := by
  show ((if okD 60 (.str k) = true ∧ okL 60 (l.map D.str) = true then some (anyD (.str k) (l.map D.str)) else none).map fun b => D.bl (!b)) = _
  rw [if_pos ⟨rfl, okL_strs 60 l⟩, any_strs]
  rfl
theorem notIn_strsL (k : Str) (l : List Str) : notInD (.str k) (.lst (l.map D.str)) = some (.bl (!decide (k ∈ l))) := by
  show ((if okD 60 (.str k) = true ∧ okL 60 (l.map D.str) = true then some (anyD (.str k) (l.map D.str)) else none).map fun b => D.bl (!b)) = _
  rw [if_pos ⟨rfl, okL_strs 60 l⟩, any_strs]
  rfl
theorem cut_to {α : Type} (xs : List α) (i : Nat) : cutL xs none (some (i : Int)) = xs.take i := by
  unfold cutL
  rw [HT.sIx_none, HT.sIx_nat, List.drop_zero, Nat.sub_zero]
  by_cases h : i ≤ xs.length
  · rw [Nat.min_eq_left h]
  · rw [Nat.min_eq_right (by omega), List.take_of_length_le (Nat.le_refl _), List.take_of_length_le (by omega)]
theorem cut_from {α : Type} (xs : List α) (i : Nat) : cutL xs (some (i : Int)) none = xs.drop i := by
  unfold cutL
  rw [HT.sIx_none, HT.sIx_nat]
  by_cases h : i ≤ xs.length
  · rw [Nat.min_eq_left h, List.take_of_length_le (by rw [List.length_drop]; exact Nat.le_refl _)]
  · rw [Nat.min_eq_right (by omega), List.drop_of_length_le (Nat.le_refl _), List.drop_of_length_le (show xs.length ≤ i by omega)]
    simp
theorem ix_tup (xs : List D) (i : Nat) (h : i < xs.length) : ixD (.tup xs) (.int (i : Int)) = some xs[i] := by
  show L2.atI xs (i : Int) = _
  unfold L2.atI ixN
  rw [if_pos (Int.natCast_nonneg i), if_pos (by omega)]
  simp [List.getElem?_eq_getElem h]
theorem ix_lst (xs : List D) (i : Nat) (h : i < xs.length) : ixD (.lst xs) (.int (i : Int)) = some xs[i] := by
  show L2.atI xs (i : Int) = _
  unfold L2.atI ixN
  rw [if_pos (Int.natCast_nonneg i), if_pos (by omega)]
  simp [List.getElem?_eq_getElem h]
theorem rng_nat {n : Nat} (h : n ≤ 16777216) : rng1 (.int (n : Int)) = some ((List.range n).map fun i => D.int ((i : Nat) : Int)) := by
  show (if (n : Int) ≤ 16777216 ∧ -(2 ^ 62 : Int) ≤ n then some (rngD 0 (n : Int).toNat) else none) = _
  rw [if_pos ⟨by omega, by omega⟩]
  unfold rngD
  simp
/-- a comprehension over 0 .. n - 1 -/
theorem comp_rng {mt : TM} {me : EM} {i : Nat} (e : Slot → Env) (hset : ∀ x y, (e x).set i y = e y) (n : Nat) (f : Nat → D) (ht : ∀ k, k < n → mt (e (.v (.int (k : Int)))) = .ok true (e (.v (.int (k : Int))))) (he : ∀ k, k < n → me (e (.v (.int (k : Int)))) = .ok (f k) (e (.v (.int (k : Int))))) (x : Slot) :
    ∃ y, compL (gNm i) mt me [i] ((List.range n).map fun i => D.int ((i : Nat) : Int)) [] (e x) = .ok ((List.range n).map f) (e y) := by
  obtain ⟨y, h⟩ := comp_D (mt := mt) (me := me) e hset ((List.range n).map fun i => D.int ((i : Nat) : Int)) (fun d => f (toI d).toNat) (fun d hd => by
    obtain ⟨k, hk, rfl⟩ := List.mem_map.mp hd
    exact ht k (List.mem_range.mp hk)) (fun d hd => by
    obtain ⟨k, hk, rfl⟩ := List.mem_map.mp hd
    exact he k (List.mem_range.mp hk)) x
  refine ⟨y, ?_⟩
  rw [h, List.map_map]
  have e2 : ((fun d => f (toI d).toNat) ∘ fun (i : Nat) => D.int ((i : Nat) : Int)) = f := by
    funext k
    simp [toI]
  rw [e2]
theorem law_unlike_eq (d : D) (most : Int) (hd : okTup d = true) : F__law_are_unlike [d, .int most] = .ok (.bl (namesB most d)) [] := by
  cases d with
  | tup xs =>
    have hd' := hd
    unfold okTup at hd'
    rw [Bool.and_eq_true] at hd'
    have few := of_decide_eq_true hd'.2
    obtain ⟨y, e⟩ := comp_D (mt := tYesM) (me := eCall [false] false F__law_is_name (aCons (rVar 2) aNil)) (i := 2) (fun s => [.v (.tup xs), .v (.int most), s, .no]) (fun _ _ => rfl) xs (fun d => .bl (nameB d)) (fun d _ => by simp) (fun d hd => by
      simp [lname_call d (List.all_eq_true.mp hd'.1 d hd)]) .no
    have al : allD2 [.lst (xs.map fun d => D.bl (nameB d))] = some (.bl (xs.all nameB)) := all_map xs nameB
    by_cases h1 : (1 : Int) ≤ (xs.length : Int)
    · by_cases h2 : (xs.length : Int) ≤ most
      · cases h3 : xs.all nameB with
        | true =>
          have hs := (strsOf_names h3).2
          obtain ⟨ss, hss⟩ : ∃ ss, ss = xs.map toS := ⟨_, rfl⟩
          have hx : xs = ss.map D.str := by rw [hss]; exact hs
          have hlen : ss.length = xs.length := by rw [hss, List.length_map]
          obtain ⟨y2, e2⟩ := comp_rng (mt := tYesM) (me := eOp2 notInD (rOf (eOp2 ixD (rVar 0) (rVar 3))) (rOf (eSl (rVar 0) oNo (oSome (eVar 3))))) (i := 3) (fun s => [.v (.tup xs), .v (.int most), .no, s]) (fun _ _ => rfl) xs.length (fun k => .bl (!decide (ss.getD k ⟨#[]⟩ ∈ ss.take k))) (fun k _ => by simp) (fun k hk => by
            have i1 := ix_tup xs k hk
            have i2 : slD (.tup xs) none (some (k : Int)) = some (.tup (xs.take k)) := by show some (D.tup (cutL xs none (some (k : Int)))) = _; rw [cut_to]
            have i3 : xs[k] = D.str (ss.getD k ⟨#[]⟩) := by
              have hk2 : k < ss.length := by omega
              rw [List.getD_eq_getElem?_getD, List.getElem?_eq_getElem hk2, Option.getD_some]
              have : xs[k]? = some (D.str ss[k]) := by rw [hx, List.getElem?_map, List.getElem?_eq_getElem hk2]; rfl
              rw [List.getElem?_eq_getElem hk] at this
              exact Option.some.inj this
            have i4 : xs.take k = (ss.take k).map D.str := by rw [hx, List.map_take]
            have i5 : notInD (.str (ss.getD k ⟨#[]⟩)) (.tup (xs.take k)) = some (.bl (!decide (ss.getD k ⟨#[]⟩ ∈ ss.take k))) := by rw [i4, notIn_strs]
            have sl : eSl (rVar 0) oNo (oSome (eVar 3)) [.v (.tup xs), .v (.int most), .no, .v (.int (k : Int))] = .ok (.tup (xs.take k)) [.v (.tup xs), .v (.int most), .no, .v (.int (k : Int))] := by
              simp [eSl, oNo, oSome, asI, i2]
            rw [eOp2_eq]
            simp only [rOf_eq, sl, bind_ok', get_val, ofO_some']
            simp only [eOp2_eq, rVar_eq, List.getElem?_cons_zero, List.getElem?_cons_succ, bind_ok', get_val, ofO_some', i1, i3, i5, sl]) .no
          have al2 : allD2 [.lst ((List.range xs.length).map fun k => D.bl (!decide (ss.getD k ⟨#[]⟩ ∈ ss.take k)))] = some (.bl (decide ss.Nodup)) := by
            rw [all_map, ← hlen, take_nodup]
          simp only [List.getD_eq_getElem?_getD] at al2
          have rg := rng_nat (n := xs.length) (by omega)
          simp [F__law_are_unlike, m__law_are_unlike, isT, lenD, h1, h2, e, al, h3, backE, wipeE, keepV, rg, e2, al2, namesB, ← hss]
        | false =>
          simp [F__law_are_unlike, m__law_are_unlike, isT, lenD, h1, h2, e, al, h3, backE, wipeE, keepV, namesB]
      · simp [F__law_are_unlike, m__law_are_unlike, isT, lenD, h1, h2, namesB]
    · simp [F__law_are_unlike, m__law_are_unlike, isT, lenD, h1, namesB]
  | exn _ _ => cases hd
  | _ => simp [F__law_are_unlike, m__law_are_unlike, isT, namesB]
end NV

set_option Elab.async false
set_option linter.all false
set_option maxRecDepth 100000
set_option maxHeartbeats 4000000
namespace NV
open PySem PySem.Spec PyProof.Rows L2
theorem names_call (d : D) (most : Int) (hd : okTup d = true) (ρ : Env) : callG [false, false] false F_are_names [.val d, .val (.int most)] ρ = .ok (.bl (namesB most d)) ρ := call_val rfl rfl (are_names_eq d most hd) (.inl rfl)
theorem lnames_call (d : D) (most : Int) (hd : okTup d = true) (ρ : Env) : callG [false, false] false F__law_are_unlike [.val d, .val (.int most)] ρ = .ok (.bl (namesB most d)) ρ := call_val rfl rfl (law_unlike_eq d most hd) (.inl rfl)
theorem whole_call (d : D) (hd : noExn d = true) (ρ : Env) : callG [false] false F_is_whole [.val d] ρ = .ok (.bl (match d with | .int _ => true | _ => false)) ρ := by
  refine call_val rfl rfl ?_ (.inl rfl)
  cases d <;> first | (simp [F_is_whole, m_is_whole, isT]; done) | cases hd
def kindB (d : D) : Bool := nameB d && (match d with
  | .str x => !decide (x = "any") && !decide (x = "fresh")
  | _ => false)
theorem kind_call (d : D) (hd : noExn d = true) (ρ : Env) : callG [false] false F_is_kind [.val d] ρ = .ok (.bl (kindB d)) ρ := by
  refine call_val rfl rfl ?_ (.inl rfl)
  cases h : nameB d with
  | false => simp [F_is_kind, m_is_kind, name_call d hd, h, kindB]
  | true =>
    cases d with
    | str x =>
      have hw : notInD (.str x) G_WIDE = some (.bl (!decide (x ∈ (["any", "fresh"] : List Str)))) := notIn_strs x ["any", "fresh"]
      simp [F_is_kind, m_is_kind, name_call (.str x) hd, h, kindB, hw]
    | _ => cases h
def songB : D → Bool
  | .tup [a, .int i, c, d] => nameB a && (decide (60 ≤ i) && decide (i ≤ 900)) && namesB 4 c && kindB d
  | _ => false
/-- things that the two are asked of -/
def okSong : D → Bool
  | .tup xs => xs.all okTup && decide (xs.length < 4000)
  | d => noExn d
theorem ix4 (a b c d : D) : ixD (.tup [a, b, c, d]) (.int 0) = some a ∧ ixD (.tup [a, b, c, d]) (.int 1) = some b ∧ ixD (.tup [a, b, c, d]) (.int 2) = some c ∧ ixD (.tup [a, b, c, d]) (.int 3) = some d := ⟨rfl, rfl, rfl, rfl⟩
theorem len4 {xs : List D} (h : xs.length = 4) : ∃ a b c d, xs = [a, b, c, d] := by
  match xs, h with
  | [a, b, c, d], _ => exact ⟨a, b, c, d, rfl⟩
theorem song_len {xs : List D} (h : xs.length ≠ 4) : songB (.tup xs) = false := by
  match xs, h with
  | [], _ => rfl
  | [_], _ => rfl
  | [_, b], _ => cases b <;> rfl
  | [_, b, _], _ => cases b <;> rfl
  | [_, _, _, _], h => exact absurd rfl h
  | _ :: b :: _ :: _ :: _ :: _, _ => cases b <;> rfl
theorem is_song_eq (d : D) (hd : okSong d = true) : F_is_song [d] = .ok (.bl (songB d)) [] := by
  cases d with
  | tup xs =>
    by_cases h4 : xs.length = 4
    · obtain ⟨a, b, c, e, rfl⟩ := len4 h4
      obtain ⟨i0, i1, i2, i3⟩ := ix4 a b c e
      have hd' : (okTup a && (okTup b && (okTup c && okTup e))) = true := by simpa [okSong] using hd
      simp only [Bool.and_eq_true] at hd'
      obtain ⟨ha, hb, hc, he⟩ := hd'
      have na := name_call a (okTup_noExn ha)
      have nw := whole_call b (okTup_noExn hb)
      have nn := names_call c 4 hc
      have nk := kind_call e (okTup_noExn he)
      cases h1 : nameB a with
      | false => cases b <;> simp [F_is_song, m_is_song, isT, lenD, i0, na, h1, songB]
      | true =>
        cases b with
        | int i =>
          by_cases h2 : 60 ≤ i
          · by_cases h3 : i ≤ 900
            · cases h5 : namesB 4 c <;> simp [F_is_song, m_is_song, isT, lenD, i0, i1, i2, i3, na, nw, nn, nk, h1, h2, h3, h5, songB, G_LEAST_LENGTH, G_MOST_LENGTH, G_MOST_SINGERS]
            · simp [F_is_song, m_is_song, isT, lenD, i0, i1, i2, i3, na, nw, nn, nk, h1, h2, h3, songB, G_LEAST_LENGTH, G_MOST_LENGTH, G_MOST_SINGERS]
          · simp [F_is_song, m_is_song, isT, lenD, i0, i1, i2, i3, na, nw, nn, nk, h1, h2, songB, G_LEAST_LENGTH, G_MOST_LENGTH, G_MOST_SINGERS]
        | _ => simp [F_is_song, m_is_song, isT, lenD, i0, i1, na, nw, h1, songB]
    · have h4i : ¬ (xs.length : Int) = 4 := by omega
      simp [F_is_song, m_is_song, isT, lenD, h4, h4i, song_len h4]
  | exn _ _ => cases hd
  | _ => simp [F_is_song, m_is_song, isT, songB]
theorem law_song_eq (d : D) (hd : okSong d = true) : F__law_is_song [d] = .ok (.bl (songB d)) [] := by
  cases d with
  | tup xs =>
    by_cases h4 : xs.length = 4
    · obtain ⟨a, b, c, e, rfl⟩ := len4 h4
      obtain ⟨i0, i1, i2, i3⟩ := ix4 a b c e
      have hd' : (okTup a && (okTup b && (okTup c && okTup e))) = true := by simpa [okSong] using hd
      simp only [Bool.and_eq_true] at hd'
      obtain ⟨ha, hb, hc, he⟩ := hd'
      have na := lname_call a (okTup_noExn ha)
      have ne := lname_call e (okTup_noExn he)
      have nn := lnames_call c 4 hc
      cases h1 : nameB a with
      | false => cases b <;> simp [F__law_is_song, m__law_is_song, isT, lenD, i0, na, h1, songB]
      | true =>
        cases h6 : nameB e with
        | false => cases b <;> simp [F__law_is_song, m__law_is_song, isT, lenD, i0, i3, na, ne, h1, h6, songB, kindB]
        | true =>
          cases e with
          | str x =>
            have q1 : neO (.str x) (.str "any") = some (.bl (!decide (x = "any"))) := by
              show (if okD 60 (.str x) = true ∧ okD 60 (.str "any") = true then some (D.bl (!eqD (.str x) (.str "any"))) else none) = _
              rw [if_pos ⟨rfl, rfl⟩, eqD_str]
            have q2 : neO (.str x) (.str "fresh") = some (.bl (!decide (x = "fresh"))) := by
              show (if okD 60 (.str x) = true ∧ okD 60 (.str "fresh") = true then some (D.bl (!eqD (.str x) (.str "fresh"))) else none) = _
              rw [if_pos ⟨rfl, rfl⟩, eqD_str]
            cases b with
            | int i =>
              by_cases h2 : 60 ≤ i
              · by_cases h3 : i ≤ 900
                · cases h5 : namesB 4 c with
                  | false => simp [F__law_is_song, m__law_is_song, isT, lenD, i0, i1, i2, i3, na, ne, nn, h1, h2, h3, h5, h6, songB, kindB]
                  | true =>
                    by_cases h7 : x = "any"
                    · have h7' : decide (x = "any") = true := decide_eq_true h7
                      simp only [F__law_is_song, m__law_is_song, isT, lenD, i0, i1, i2, i3, na, ne, nn, h1, h2, h3, h5, h6, songB, kindB, q1, q2, h7', runF_eq, slots_v, slots_nil]
                      simp [isT, lenD, i0, i1, i2, i3, na, ne, nn, h1, h2, h3, h5, h6, q1, q2, h7']
                    · simp [F__law_is_song, m__law_is_song, isT, lenD, i0, i1, i2, i3, na, ne, nn, h1, h2, h3, h5, h6, songB, kindB, q1, q2, h7]
                · simp [F__law_is_song, m__law_is_song, isT, lenD, i0, i1, i2, i3, na, ne, nn, h1, h2, h3, h6, songB, kindB]
              · simp [F__law_is_song, m__law_is_song, isT, lenD, i0, i1, i2, i3, na, ne, nn, h1, h2, h6, songB, kindB]
            | exn _ _ => cases hb
            | _ => simp [F__law_is_song, m__law_is_song, isT, lenD, i0, i1, i3, na, ne, h1, h6, songB]
          | _ => cases h6
    · have h4i : ¬ (xs.length : Int) = 4 := by omega
      simp [F__law_is_song, m__law_is_song, isT, lenD, h4, h4i, song_len h4]
  | exn _ _ => cases hd
  | _ => simp [F__law_is_song, m__law_is_song, isT, songB]
end NV

set_option Elab.async false
set_option linter.all false
set_option maxRecDepth 100000
set_option maxHeartbeats 4000000
namespace NV
open PySem PySem.Spec PyProof.Rows L2
def bandB : D → Bool
  | .tup [a, b] => nameB a && namesB 6 b
  | _ => false
theorem band_len {xs : List D} (h : xs.length ≠ 2) : bandB (.tup xs) = false := by
  match xs, h with
  | [], _ => rfl
  | [_], _ => rfl
  | [_, _], h => exact absurd rfl h
  | _ :: _ :: _ :: _, _ => rfl
theorem len2 {xs : List D} (h : xs.length = 2) : ∃ a b, xs = [a, b] := by
  match xs, h with
  | [a, b], _ => exact ⟨a, b, rfl⟩
theorem is_band_eq (d : D) (hd : okSong d = true) : F_is_band [d] = .ok (.bl (bandB d)) [] := by
  cases d with
  | tup xs =>
    by_cases h4 : xs.length = 2
    · obtain ⟨a, b, rfl⟩ := len2 h4
      have i0 : ixD (.tup [a, b]) (.int 0) = some a := rfl
      have i1 : ixD (.tup [a, b]) (.int 1) = some b := rfl
      have hd' : (okTup a && okTup b) = true := by simpa [okSong] using hd
      simp only [Bool.and_eq_true] at hd'
      have na := name_call a (okTup_noExn hd'.1)
      have nn := names_call b 6 hd'.2
      cases h1 : nameB a <;> simp [F_is_band, m_is_band, isT, lenD, i0, i1, na, nn, h1, bandB, G_MOST_MEMBERS]
    · have h4i : ¬ (xs.length : Int) = 2 := by omega
      simp [F_is_band, m_is_band, isT, lenD, h4, h4i, band_len h4]
  | exn _ _ => cases hd
  | _ => simp [F_is_band, m_is_band, isT, bandB]
theorem band_call (d : D) (hd : okSong d = true) (ρ : Env) : callG [false] false F_is_band [.val d] ρ = .ok (.bl (bandB d)) ρ := call_val rfl rfl (is_band_eq d hd) (.inl rfl)
def hdD : D → D
  | .tup (a :: _) => a
  | _ => .non
def bandsB : D → Bool
  | .tup xs => decide ((xs.length : Int) ≤ 6) && xs.all bandB && decide ((xs.map fun d => toS (hdD d)).Nodup)
  | _ => false
def okBands : D → Bool
  | .tup xs => xs.all okSong && decide (xs.length < 4000)
  | d => noExn d
theorem band_hd {d : D} (h : bandB d = true) : ixD d (.int 0) = some (hdD d) ∧ nameB (hdD d) = true := by
  unfold bandB at h
  split at h
  · rw [Bool.and_eq_true] at h
    exact ⟨rfl, h.1⟩
  · cases h
theorem is_bands_eq (d : D) (hd : okBands d = true) : F_is_bands [d] = .ok (.bl (bandsB d)) [] := by
  cases d with
  | tup xs =>
    have hd' := hd
    unfold okBands at hd'
    rw [Bool.and_eq_true] at hd'
    have few := of_decide_eq_true hd'.2
    obtain ⟨y, e⟩ := comp_D (mt := tYesM) (me := eCall [false] false F_is_band (aCons (rVar 1) aNil)) (i := 1) (fun s => [.v (.tup xs), s]) (fun _ _ => rfl) xs (fun d => .bl (bandB d)) (fun d _ => by simp) (fun d hd => by
      simp [band_call d (List.all_eq_true.mp hd'.1 d hd)]) .no
    have al : allD2 [.lst (xs.map fun d => D.bl (bandB d))] = some (.bl (xs.all bandB)) := all_map xs bandB
    by_cases h2 : (6 : Int) < (xs.length : Int)
    · have h2' : ¬ (xs.length : Int) ≤ 6 := by omega
      simp [F_is_bands, m_is_bands, isT, lenD, h2, h2', bandsB, G_MOST_BANDS]
    · have h2' : (xs.length : Int) ≤ 6 := by omega
      cases h3 : xs.all bandB with
      | true =>
        have hb : ∀ d ∈ xs, bandB d = true := List.all_eq_true.mp h3
        obtain ⟨y2, e2⟩ := comp_D (mt := tYesM) (me := eOp2 ixD (rVar 1) (rOf (eC (.int 0)))) (i := 1) (fun s => [.v (.tup xs), s]) (fun _ _ => rfl) xs hdD (fun d _ => by simp) (fun d hd => by simp [(band_hd (hb d hd)).1]) .no
        have hn : (xs.map hdD).all nameB = true := by
          rw [List.all_eq_true]
          intro z hz
          obtain ⟨d, hd, rfl⟩ := List.mem_map.mp hz
          exact (band_hd (hb d hd)).2
        have hl : lenSetD (.lst (xs.map hdD)) = some (.int (NVS.dd ((xs.map hdD).map toS)).length) := by
          show (strsOf (xs.map hdD)).bind _ = _
          rw [(strsOf_names hn).1]
          show (if _ then _ else _) = _
          rw [if_pos (by rw [List.length_map, List.length_map]; exact few)]
        have hn2 := dd_nodup ((xs.map hdD).map toS)
        rw [List.length_map, List.length_map] at hn2
        have em : (xs.map hdD).map toS = xs.map fun d => toS (hdD d) := by rw [List.map_map]; rfl
        rw [em] at hn2 hl
        simp [F_is_bands, m_is_bands, isT, lenD, h2, h2', e, al, h3, backE, wipeE, keepV, e2, eLenSet, hl, bandsB, G_MOST_BANDS]
        rw [← hn2]
        omega
      | false =>
        simp [F_is_bands, m_is_bands, isT, lenD, h2, h2', e, al, h3, backE, wipeE, keepV, bandsB, G_MOST_BANDS]
  | exn _ _ => cases hd
  | _ => simp [F_is_bands, m_is_bands, isT, bandsB]
/-- a loop that leaves with False -/
theorem for_false {body : SM} {i : Nat} (e : Slot → Env) (hset : ∀ x y, (e x).set i y = e y) (p : D → Bool) : ∀ (ds : List D), (∀ d ∈ ds, body (e (.v d)) = if p d then .nx (e (.v d)) else .rt (.bl false) (e (.v d))) → ∀ x, ∃ y, forL (gNm i) body ds (e x) = if ds.all p then .nx (e y) else .rt (.bl false) (e y)
  | [], _, x => ⟨x, rfl⟩
  | d :: ds, h, x => by
    have h1 := h d List.mem_cons_self
    obtain ⟨y, ih⟩ := for_false e hset p ds (fun d hd => h d (List.mem_cons_of_mem _ hd)) (.v d)
    unfold forL
    simp only [gNm_eq, hset, h1]
    cases hp : p d with
    | true => exact ⟨y, by simp [hp, ih]⟩
    | false => exact ⟨.v d, by simp [hp]⟩
theorem law_bands_eq (d : D) (hd : okBands d = true) : F__law_is_bands [d] = .ok (.bl (bandsB d)) [] := by
  cases d with
  | tup xs =>
    have hd' := hd
    unfold okBands at hd'
    rw [Bool.and_eq_true] at hd'
    have few := of_decide_eq_true hd'.2
    by_cases h2 : (6 : Int) < (xs.length : Int)
    · have h2' : ¬ (xs.length : Int) ≤ 6 := by omega
      simp [F__law_is_bands, m__law_is_bands, isT, lenD, h2, h2', bandsB]
    · have h2' : (xs.length : Int) ≤ 6 := by omega
      obtain ⟨y, e⟩ := for_false (i := 1) (body := (sSeq (sIf (tOrM (tNotM (tOfE (eIsT .tuple (rVar 1)))) (tOrM (tOfE (eOp2 neO (rOf (eCallB lenD (aCons (rVar 1) aNil))) (rOf (eC (.int 2))))) (tNotM (tOfE (eCall [false] false F__law_is_name (aCons (rOf (eOp2 ixD (rVar 1) (rOf (eC (.int 0))))) aNil)))))) (sRet (eC (.bl false))) sNil) (sIf (tNotM (tOfE (eCall [false, false] false F__law_are_unlike (aCons (rOf (eOp2 ixD (rVar 1) (rOf (eC (.int 1))))) (aCons (rOf (eC (.int 6))) aNil))))) (sRet (eC (.bl false))) sNil)))
        (fun s => [.v (.tup xs), s]) (fun _ _ => rfl) bandB xs (fun d hd => by
          have hs := List.all_eq_true.mp hd'.1 d hd
          cases d with
          | tup ys =>
            by_cases h4 : ys.length = 2
            · obtain ⟨a, b, rfl⟩ := len2 h4
              have i0 : ixD (.tup [a, b]) (.int 0) = some a := rfl
              have i1 : ixD (.tup [a, b]) (.int 1) = some b := rfl
              have ho : (okTup a && okTup b) = true := by simpa [okSong] using hs
              simp only [Bool.and_eq_true] at ho
              have na := lname_call a (okTup_noExn ho.1)
              have nn := lnames_call b 6 ho.2
              cases h1 : nameB a with
              | false => simp [isT, lenD, i0, i1, na, nn, h1, bandB]
              | true => cases h5 : namesB 6 b <;> simp [isT, lenD, i0, i1, na, nn, h1, h5, bandB]
            · have h4i : ¬ (ys.length : Int) = 2 := by omega
              simp [isT, lenD, h4, h4i, band_len h4]
          | exn _ _ => cases hs
          | _ => simp [isT, bandB]) .no
      cases h3 : xs.all bandB with
      | true =>
        have hb : ∀ d ∈ xs, bandB d = true := List.all_eq_true.mp h3
        rw [h3, if_pos rfl] at e
        obtain ⟨y2, e2⟩ := comp_D (mt := tYesM) (me := eOp2 ixD (rVar 1) (rOf (eC (.int 0)))) (i := 1) (fun s => [.v (.tup xs), s]) (fun _ _ => rfl) xs hdD (fun d _ => by simp) (fun d hd => by simp [(band_hd (hb d hd)).1]) y
        have hn : (xs.map hdD).all nameB = true := by
          rw [List.all_eq_true]
          intro z hz
          obtain ⟨d, hd, rfl⟩ := List.mem_map.mp hz
          exact (band_hd (hb d hd)).2
        have okh : okTup (.tup (xs.map hdD)) = true := by
          unfold okTup
          rw [Bool.and_eq_true]
          refine ⟨List.all_eq_true.mpr fun z hz => ?_, by rw [List.length_map]; exact hd'.2⟩
          have := List.all_eq_true.mp hn z hz
          cases z <;> first | rfl | cases this
        have nn := lnames_call (.tup (xs.map hdD)) 6 okh
        have eq0 : eqO (.tup xs) (.tup []) = some (.bl xs.isEmpty) := rfl
        have tt : tuple3D [.lst (xs.map hdD)] = some (.tup (xs.map hdD)) := rfl
        have em : (xs.map hdD).map toS = xs.map fun d => toS (hdD d) := by rw [List.map_map]; rfl
        cases h6 : xs.isEmpty with
        | true =>
          have hx : xs = [] := List.isEmpty_iff.mp h6
          subst hx
          simp [F__law_is_bands, m__law_is_bands, isT, lenD, forL, bandsB, eqO]
        | false =>
          have h1 : (1 : Int) ≤ (xs.length : Int) := by
            cases xs with
            | nil => cases h6
            | cons a r => simp only [List.length_cons]; omega
          have hbn : namesB 6 (.tup (xs.map hdD)) = decide ((xs.map fun d => toS (hdD d)).Nodup) := by
            show (decide ((1 : Int) ≤ ((xs.map hdD).length : Int)) && decide (((xs.map hdD).length : Int) ≤ 6) && (xs.map hdD).all nameB && decide (((xs.map hdD).map toS).Nodup)) = _
            rw [em, hn, List.length_map]
            simp only [h1, h2', decide_true, Bool.true_and]
          have eb : ∀ s, backE [.v (.tup xs), y] [1] (wipeE [.v (.tup xs), s] [1]) = [.v (.tup xs), keepV y] := fun _ => rfl
          simp only [F__law_is_bands, m__law_is_bands, runF_eq, slots_v, slots_nil]
          simp [isT, lenD, h2, e, eq0, h6, e2, eb, tt, nn, hbn, bandsB, h2', h3]
      | false =>
        rw [h3] at e
        simp only [Bool.false_eq_true, if_false] at e
        simp only [F__law_is_bands, m__law_is_bands, runF_eq, slots_v, slots_nil]
        simp [isT, lenD, h2, h2', e, bandsB, h3]
  | exn _ _ => cases hd
  | _ => simp [F__law_is_bands, m__law_is_bands, isT, bandsB]
end NV

set_option Elab.async false
set_option linter.all false
set_option maxRecDepth 100000
set_option maxHeartbeats 4000000
namespace NV
open PySem PySem.Spec PyProof.Rows L2
mutual
def good : D → Bool
  | .exn _ _ => false
  | .tup xs => goodL xs && decide (xs.length < 4000)
  | _ => true
def goodL : List D → Bool
  | [] => true
  | d :: ds => good d && goodL ds
end
theorem goodL_all : ∀ xs : List D, goodL xs = xs.all good
  | [] => by rw [goodL]; rfl
  | d :: ds => by rw [goodL, goodL_all ds]; rfl
theorem good_noExn {d : D} (h : good d = true) : noExn d = true := by
  cases d with
  | exn _ _ => rw [good] at h; cases h
  | _ => rfl
theorem good_tup {xs : List D} : good (.tup xs) = (xs.all good && decide (xs.length < 4000)) := by rw [good, goodL_all]
theorem all_imp {p q : D → Bool} (h : ∀ d, p d = true → q d = true) {xs : List D} (a : xs.all p = true) : xs.all q = true := by
  rw [List.all_eq_true] at a ⊢
  exact fun d hd => h d (a d hd)
theorem good_okTup {d : D} (h : good d = true) : okTup d = true := by
  cases d with
  | tup xs =>
    rw [good_tup, Bool.and_eq_true] at h
    unfold okTup
    rw [Bool.and_eq_true]
    exact ⟨all_imp (fun _ => good_noExn) h.1, h.2⟩
  | exn _ _ => rw [good] at h; cases h
  | _ => rfl
theorem good_okSong {d : D} (h : good d = true) : okSong d = true := by
  cases d with
  | tup xs =>
    rw [good_tup, Bool.and_eq_true] at h
    unfold okSong
    rw [Bool.and_eq_true]
    exact ⟨all_imp (fun _ => good_okTup) h.1, h.2⟩
  | exn _ _ => rw [good] at h; cases h
  | _ => rfl
theorem good_okBands {d : D} (h : good d = true) : okBands d = true := by
  cases d with
  | tup xs =>
    rw [good_tup, Bool.and_eq_true] at h
    unfold okBands
    rw [Bool.and_eq_true]
    exact ⟨all_imp (fun _ => good_okSong) h.1, h.2⟩
  | exn _ _ => rw [good] at h; cases h
  | _ => rfl
/-! ### tools -/
theorem comp_each {S : Type} {mt : TM} {me : EM} {i : Nat} (e : S → Slot → Env) (hset : ∀ s x y, (e s x).set i y = e s y) (P : D → Prop) : ∀ (ds : List D), (∀ s, ∀ d ∈ ds, mt (e s (.v d)) = .ok true (e s (.v d))) → (∀ s, ∀ d ∈ ds, ∃ s' z, me (e s (.v d)) = .ok z (e s' (.v d)) ∧ P z) →
    ∀ (acc : List D) (s : S) (x : Slot), ∃ s' y out, compL (gNm i) mt me [i] ds acc (e s x) = .ok (acc ++ out) (e s' y) ∧ out.length = ds.length ∧ ∀ z ∈ out, P z
  | [], _, _, acc, s, x => ⟨s, x, [], by simp [compL], rfl, fun _ z => by cases z⟩
  | d :: ds, ht, he, acc, s, x => by
    obtain ⟨s1, z, h1, hz⟩ := he s d List.mem_cons_self
    have es : (wipeE (e s x) [i]).set i (.v d) = e s (.v d) := by rw [show wipeE (e s x) [i] = (e s x).set i .no from rfl, hset, hset]
    obtain ⟨s', y, out, e2, hl, hP⟩ := comp_each e hset P ds (fun s d hd => ht s d (List.mem_cons_of_mem _ hd)) (fun s d hd => he s d (List.mem_cons_of_mem _ hd)) (acc ++ [z]) s1 (.v d)
    refine ⟨s', y, z :: out, ?_, by simp [hl], fun w hw => (List.mem_cons.mp hw).elim (fun q => q ▸ hz) (hP w)⟩
    unfold compL
    simp only [gNm_eq, es, ht s d List.mem_cons_self, noexc_ok, bind_ok', if_true, h1]
    rw [e2]
    simp
theorem for_cnt {g : D → Env → Option Env} {body : SM} (I : Nat → Env → Prop) : ∀ (ds : List D) (k : Nat), (∀ j, ∀ d ∈ ds, ∀ ρ, I j ρ → j < k + ds.length → ∃ ρ1 ρ2, g d ρ = some ρ1 ∧ body ρ1 = .nx ρ2 ∧ I (j + 1) ρ2) → ∀ ρ, I k ρ → ∃ ρ', forL g body ds ρ = .nx ρ' ∧ I (k + ds.length) ρ'
  | [], k, _, ρ, h => ⟨ρ, rfl, h⟩
  | d :: ds, k, hb, ρ, h => by
    obtain ⟨ρ1, ρ2, h1, h2, h3⟩ := hb k d List.mem_cons_self ρ h (by simp)
    obtain ⟨ρ', h4, h5⟩ := for_cnt I ds (k + 1) (fun j d hd ρ hi hj => hb j d (List.mem_cons_of_mem _ hd) ρ hi (by simp only [List.length_cons]; omega)) ρ2 h3
    refine ⟨ρ', ?_, by rw [List.length_cons, show k + (ds.length + 1) = k + 1 + ds.length by omega]; exact h5⟩
    unfold forL
    rw [h1]
    simp only [h2]
    exact h4
theorem nodup_len {α : Type} [DecidableEq α] : ∀ (l m : List α), l.Nodup → (∀ x ∈ l, x ∈ m) → l.length ≤ m.length
  | [], _, _, _ => Nat.zero_le _
  | x :: l, m, hn, hs => by
    obtain ⟨h1, h2⟩ := List.nodup_cons.mp hn
    have hx := hs x List.mem_cons_self
    have ih := nodup_len l (m.erase x) h2 fun y hy => (List.mem_erase_of_ne (show y ≠ x from fun e => h1 (e ▸ hy))).mpr (hs y (List.mem_cons_of_mem _ hy))
    rw [List.length_erase_of_mem hx] at ih
    have := List.length_pos_of_mem hx
    rw [List.length_cons]
    omega
theorem ix_pick {L : List D} {r : Int} (h0 : 0 ≤ r) (h1 : r < (L.length : Int)) : ∃ z, ixD (.lst L) (.int r) = some z ∧ z ∈ L := by
  have e := ix_lst L r.toNat (by omega)
  rw [show ((r.toNat : Nat) : Int) = r by omega] at e
  exact ⟨_, e, List.getElem_mem _⟩
theorem cat_ok {a b : List D} (h : a.length + b.length ≤ 16777216) : catD (.lst a) (.lst b) = some (.lst (a ++ b)) := by
  show (if _ ≤ sizeLine then _ else none) = _
  rw [if_pos (by rw [sizeLine_eq]; exact h)]
theorem add_tup {a b : List D} (h : a.length + b.length ≤ 16777216) : addD (.tup a) (.tup b) = some (.tup (a ++ b)) := by
  show (if _ ≤ sizeLine then _ else none) = _
  rw [if_pos (by rw [sizeLine_eq]; exact h)]
theorem add_str {a b : Str} (h : a.length + b.length ≤ 16777216) : addD (.str a) (.str b) = some (.str (a ++ b)) := by
  show (if _ ≤ sizeLine then _ else none) = _
  rw [if_pos (by rw [sizeLine_eq]; exact h)]
/-- small letters, few -/
def lowS (x : Str) : Prop := x.length ≤ 20 ∧ ∀ c ∈ x.cps.toList, 97 ≤ c ∧ c ≤ 122
theorem lowS_by {x : Str} (h : (decide (x.length ≤ 20) && x.cps.toList.all fun c => decide (97 ≤ c) && decide (c ≤ 122)) = true) : lowS x := by
  rw [Bool.and_eq_true] at h
  refine ⟨of_decide_eq_true h.1, fun c hc => ?_⟩
  have := List.all_eq_true.mp h.2 c hc
  rw [Bool.and_eq_true] at this
  exact ⟨of_decide_eq_true this.1, of_decide_eq_true this.2⟩
theorem strOk_by {x : Str} (h : ∀ c ∈ x.cps.toList, c < 1114112) : PySem.PyData.strOk x = true := by
  unfold PySem.PyData.strOk
  rw [Array.all_eq_true_iff_forall_mem]
  intro c hc
  exact decide_eq_true (h c (by simpa using hc))
theorem strGb_by {x : Str} (h1 : x.length ≤ 16777216) (h : ∀ c ∈ x.cps.toList, c < 1114112) : strGb x = true := by
  unfold strGb
  rw [Bool.and_eq_true]
  exact ⟨decide_eq_true (by rw [sizeLine_eq]; exact h1), strOk_by h⟩
theorem upper_ok {x : Str} (h : lowS x) : x.length ≤ 5592405 ∧ strGb (Txt.upper x) = true := by
  have hl := PyProof.Rows.len_upper x
  have := h.1
  refine ⟨by omega, strGb_by (by omega) fun c hc => ?_⟩
  have hc' : c ∈ (placed x fun _ c => Unicode.upperOf c).toList := hc
  unfold placed at hc'
  rw [Array.mem_toList_iff, Array.mem_flatten] at hc'
  obtain ⟨xs, hxs, hcx⟩ := hc'
  obtain ⟨i, hi, e⟩ := Array.mem_mapIdx.mp hxs
  subst e
  have hm : x.cps[i] ∈ x.cps.toList := by simp
  have hlow := h.2 _ hm
  have hcx : c ∈ (Unicode.upperOf x.cps[i]).toArray := hcx
  rw [PyProof.Rows.upperOf_ascii _ (by omega)] at hcx
  have ec : c = PyProof.Rows.up1 x.cps[i] := by simpa using hcx
  have all : ∀ c, c < 128 → PyProof.Rows.up1 c < 1114112 := by decide +kernel
  rw [ec]
  exact all _ (by omega)
end NV

set_option Elab.async false
set_option linter.all false
set_option maxRecDepth 100000
set_option maxHeartbeats 4000000
namespace NV
open PySem PySem.Spec PyProof.Rows L2
theorem foldl_cps (acc : Array Nat) : ∀ ys : List Str, (ys.foldl (fun a p => a ++ (⟨#[]⟩ : Str).cps ++ p.cps) acc).toList = acc.toList ++ (ys.map fun p => p.cps.toList).flatten
  | [] => by simp
  | y :: ys => by
    rw [List.foldl_cons, foldl_cps _ ys]
    simp
theorem join_empty (ys : List Str) : (Txt.join ⟨#[]⟩ ys).cps.toList = (ys.map fun p => p.cps.toList).flatten := by
  show ((ys.drop 1).foldl (fun acc p => acc ++ (⟨#[]⟩ : Str).cps ++ p.cps) (ys.headD Str.empty).cps).toList = _
  cases ys with
  | nil => rfl
  | cons y ys =>
    rw [foldl_cps]
    rfl
/-- one small letter -/
def oneL (d : D) : Prop := ∃ c : Nat, 97 ≤ c ∧ c ≤ 122 ∧ d = .str ⟨#[c]⟩
theorem ones {out : List D} (h : ∀ z ∈ out, oneL z) : ∃ cs : List Nat, (∀ c ∈ cs, 97 ≤ c ∧ c ≤ 122) ∧ out = cs.map fun c => D.str ⟨#[c]⟩ := by
  induction out with
  | nil => exact ⟨[], (fun _ z => by cases z), rfl⟩
  | cons d ds ih =>
    obtain ⟨cs, h1, h2⟩ := ih fun z hz => h z (List.mem_cons_of_mem _ hz)
    obtain ⟨c, c1, c2, rfl⟩ := h d List.mem_cons_self
    refine ⟨c :: cs, fun x hx => ?_, by rw [h2]; rfl⟩
    rcases List.mem_cons.mp hx with e | hx
    · subst e; exact ⟨c1, c2⟩
    · exact h1 x hx
theorem letter_at {j : Int} (h0 : 0 ≤ j) (h1 : j < 26) : ∃ z, ixD (.str "abcdefghijklmnopqrstuvwxyz") (.int j) = some z ∧ oneL z := by
  have hl : (("abcdefghijklmnopqrstuvwxyz" : Str)).cps.toList.length = 26 := by decide
  have al : (("abcdefghijklmnopqrstuvwxyz" : Str)).cps.toList.all (fun c => decide (97 ≤ c) && decide (c ≤ 122)) = true := by decide
  generalize ("abcdefghijklmnopqrstuvwxyz" : Str) = L at hl al ⊢
  have hj : j.toNat < L.cps.toList.length := by omega
  refine ⟨.str ⟨#[L.cps.toList[j.toNat]]⟩, ?_, L.cps.toList[j.toNat], ?_, ?_, rfl⟩
  · show (L2.atI L.cps.toList j).map _ = _
    have : L2.atI L.cps.toList j = some L.cps.toList[j.toNat] := by
      unfold L2.atI ixN
      rw [if_pos h0, if_pos (by omega)]
      show L.cps.toList[j.toNat]? = _
      exact List.getElem?_eq_getElem hj
    rw [this]
    rfl
  · have := List.all_eq_true.mp al _ (List.getElem_mem hj)
    rw [Bool.and_eq_true] at this
    exact of_decide_eq_true this.1
  · have := List.all_eq_true.mp al _ (List.getElem_mem hj)
    rw [Bool.and_eq_true] at this
    exact of_decide_eq_true this.2
theorem join_ones {cs : List Nat} (h : ∀ c ∈ cs, 97 ≤ c ∧ c ≤ 122) (hl : cs.length ≤ 8) : ∃ x, joinD (.str "") (.lst (cs.map fun c => D.str ⟨#[c]⟩)) = some (.str x) ∧ lowS x ∧ x.length ≤ 8 := by
  have hs : seqStrs (.lst (cs.map fun c => D.str ⟨#[c]⟩)) = some (cs.map fun c => (⟨#[c]⟩ : Str)) := by
    show strsOf _ = _
    clear h hl
    induction cs with
    | nil => rfl
    | cons c cs ih =>
      show (strsOf (cs.map fun c => D.str ⟨#[c]⟩)).map _ = _
      rw [ih]
      rfl
  have hc : (Txt.join ⟨#[]⟩ (cs.map fun c => (⟨#[c]⟩ : Str))).cps.toList = cs := by
    rw [join_empty, List.map_map]
    clear h hl hs
    induction cs with
    | nil => rfl
    | cons c cs ih =>
      rw [List.map_cons, List.flatten_cons, ih]
      rfl
  have hlen : (Txt.join ⟨#[]⟩ (cs.map fun c => (⟨#[c]⟩ : Str))).length = cs.length := by
    show (Txt.join ⟨#[]⟩ (cs.map fun c => (⟨#[c]⟩ : Str))).cps.size = _
    rw [← Array.length_toList, hc]
  have hsum : ((cs.map fun c => (⟨#[c]⟩ : Str)).map (·.length)).sum = cs.length := by
    clear h hl hs hc hlen
    induction cs with
    | nil => rfl
    | cons c cs ih =>
      rw [List.map_cons, List.map_cons, List.sum_cons, ih, List.length_cons]
      show 1 + _ = _
      omega
  refine ⟨Txt.join ⟨#[]⟩ (cs.map fun c => (⟨#[c]⟩ : Str)), ?_, ⟨by omega, fun c hm => h c (by rw [hc] at hm; exact hm)⟩, by omega⟩
  show (match D.str ⟨#[]⟩, seqStrs (.lst (cs.map fun c => D.str ⟨#[c]⟩)) with
    | .str x, some ys => if (ys.map (fun y : Str => y.length)).sum + ys.length * x.length ≤ 16777216 ∧ strGb (Txt.join x ys) = true then some (D.str (Txt.join x ys)) else none
    | _, _ => none) = _
  rw [hs]
  show (if _ ∧ _ then _ else _) = _
  rw [if_pos ⟨by rw [hsum, List.length_map]; show _ + cs.length * 0 ≤ _; omega, strGb_by (by omega) fun c hm => by
    rw [hc] at hm
    have := h c hm
    omega⟩]
theorem any_name_ok (s : Pu) : ∃ (s' : Pu) (x : Str), F__law_any_name [s.d] = .ok (.str x) [s'.d] ∧ lowS x ∧ x.length ≤ 8 := by
  obtain ⟨W, hW⟩ : ∃ W : List D, W = (["song", "singer", "behind", "never", "most", "fresh", "wheel", "any", "turn", "least", "ahead", "hand"] : List Str).map D.str := ⟨_, rfl⟩
  obtain ⟨s1, r, e1, _, _⟩ := pick_call s [.v (.lst W), .no, .no] 3 (by decide) (by decide)
  have wl : W.length = 12 := by rw [hW]; rfl
  have wb : W.length ≤ 16777216 := by omega
  have hWs : [D.str "song", .str "singer", .str "behind", .str "never", .str "most", .str "fresh", .str "wheel", .str "any", .str "turn", .str "least", .str "ahead", .str "hand"] = W := hW.symm
  by_cases h : r = 0
  · subst h
    obtain ⟨s2, j, e2, j0, j1⟩ := pick_call s1 [.v (.lst W), .no, .no] 12 (by decide) (by decide)
    obtain ⟨z, ez, hz⟩ := ix_pick (L := W) j0 (by rw [wl]; exact j1)
    have hz' : ∃ x : Str, z = .str x ∧ lowS x ∧ x.length ≤ 8 := by
      rw [hW] at hz
      obtain ⟨x, hx, rfl⟩ := List.mem_map.mp hz
      have al : (["song", "singer", "behind", "never", "most", "fresh", "wheel", "any", "turn", "least", "ahead", "hand"] : List Str).all (fun x => (decide (x.length ≤ 20) && x.cps.toList.all fun c => decide (97 ≤ c) && decide (c ≤ 122)) && decide (x.length ≤ 8)) = true := by decide
      have := List.all_eq_true.mp al x hx
      rw [Bool.and_eq_true] at this
      exact ⟨x, rfl, lowS_by this.1, of_decide_eq_true this.2⟩
    obtain ⟨x, rfl, hx⟩ := hz'
    refine ⟨s2, x, ?_, hx⟩
    simp only [F__law_any_name, m__law_any_name, runF_eq, slots_p, slots_nil]
    simp [hWs, wb, e1, e2, ez]
  · obtain ⟨s2, j, e2, j0, j1⟩ := pick_call s1 [.v (.lst W), .v (.str "abcdefghijklmnopqrstuvwxyz"), .no] 8 (by decide) (by decide)
    have rg := rng_nat (n := (1 + j).toNat) (by omega)
    rw [show (((1 + j).toNat : Nat) : Int) = 1 + j by omega] at rg
    obtain ⟨s3, y, out, e3, hlen, hP⟩ := comp_each (S := Pu) (mt := tYesM) (me := eOp2 ixD (rVar 2) (rOf (eCall [true, false] false F__law_pick (aCons (rVar 0) (aCons (rOf (eC (.int 26))) aNil))))) (i := 3) (fun s x => [.p s.d, .v (.lst W), .v (.str "abcdefghijklmnopqrstuvwxyz"), x]) (fun _ _ _ => rfl) oneL
      ((List.range (1 + j).toNat).map fun i => D.int ((i : Nat) : Int)) (fun s d _ => by simp) (fun s d _ => by
        obtain ⟨s', r, e, r0, r1⟩ := pick_call s [.v (.lst W), .v (.str "abcdefghijklmnopqrstuvwxyz"), .v d] 26 (by decide) (by decide)
        obtain ⟨z, hz, ho⟩ := letter_at r0 r1
        exact ⟨s', z, by simp [e, hz], ho⟩) [] s2 .no
    obtain ⟨cs, hcs, rfl⟩ := ones hP
    rw [List.length_map, List.length_map, List.length_range] at hlen
    obtain ⟨x, hj, hx⟩ := join_ones hcs (by omega)
    refine ⟨s3, x, ?_, hx⟩
    simp only [F__law_any_name, m__law_any_name, runF_eq, slots_p, slots_nil]
    simp [hWs, wb, e1, h, e2, rg, e3, eJoin, isStr, hj, backE, wipeE, keepV]
theorem any_call (s : Pu) (ρ : Env) : ∃ (s' : Pu) (x : Str), callG [true] false F__law_any_name [.own 0] (.p s.d :: ρ) = .ok (.str x) (.p s'.d :: ρ) ∧ lowS x ∧ x.length ≤ 8 := by
  obtain ⟨s', x, h, h2⟩ := any_name_ok s
  exact ⟨s', x, call_own (i := 0) rfl rfl h rfl, h2⟩
theorem kind_ok (s : Pu) : ∃ (s' : Pu) (x : Str), F__law_kind [s.d] = .ok (.str x) [s'.d] ∧ lowS x := by
  obtain ⟨s1, x, e1, hx, hl⟩ := any_call s [.no]
  have hw : inD (.str x) (.tup [.str "any", .str "fresh"]) = some (.bl (decide (x ∈ (["any", "fresh"] : List Str)))) := in_strs x ["any", "fresh"]
  have hc : ∃ y, slD (.str x) none (some 7) = some (.str y) ∧ y.length ≤ 8 ∧ ∀ c ∈ y.cps.toList, c ∈ x.cps.toList := by
    refine ⟨cutS x none (some 7), rfl, Nat.le_trans (cutS_length x _ _) hl, fun c hc => ?_⟩
    unfold cutS at hc
    have hc2 := hc
    simp only [List.toList_toArray] at hc2
    exact List.mem_of_mem_drop (List.mem_of_mem_take hc2)
  obtain ⟨y, hy, yl, yc⟩ := hc
  have ha : addD (.str y) (.str "s") = some (.str (y ++ "s")) := add_str (by show y.length + 1 ≤ _; omega)
  have lo : lowS (y ++ "s") := by
    refine ⟨by show (y.cps ++ ("s" : Str).cps).size ≤ 20; rw [Array.size_append]; show y.length + 1 ≤ 20; omega, fun c hc => ?_⟩
    have hc2 : c ∈ y.cps.toList ++ ("s" : Str).cps.toList := by
      have : (y ++ "s" : Str).cps.toList = y.cps.toList ++ ("s" : Str).cps.toList := by show (y.cps ++ ("s" : Str).cps).toList = _; rw [Array.toList_append]
      rw [← this]; exact hc
    rcases List.mem_append.mp hc2 with q | q
    · exact hx.2 c (yc c q)
    · have : c = 115 := by simpa using (show c ∈ [115] from q)
      omega
  have sl : ∀ ρ, eSl (rVar 1) oNo (oSome (eC (.int 7))) (.p s1.d :: .v (.str x) :: ρ) = .ok (.str y) (.p s1.d :: .v (.str x) :: ρ) := fun ρ => by simp [eSl, oNo, oSome, asI, hy]
  by_cases h : x ∈ (["any", "fresh"] : List Str)
  · refine ⟨s1, y ++ "s", ?_, lo⟩
    have ix : ixD (.lst [.str x, .str (y ++ "s")]) (.int 1) = some (.str (y ++ "s")) := rfl
    have hw' : inD (.str x) (.tup [.str "any", .str "fresh"]) = some (.bl true) := by rw [hw, decide_eq_true h]
    simp only [F__law_kind, m__law_kind, runF_eq, slots_p, slots_nil]
    simp [e1, sl, ha, hw', intD, ix]
  · refine ⟨s1, x, ?_, hx⟩
    have ix : ixD (.lst [.str x, .str (y ++ "s")]) (.int 0) = some (.str x) := rfl
    have hw' : inD (.str x) (.tup [.str "any", .str "fresh"]) = some (.bl false) := by rw [hw, decide_eq_false h]
    simp only [F__law_kind, m__law_kind, runF_eq, slots_p, slots_nil]
    simp [e1, sl, ha, hw', intD, ix]
end NV

set_option Elab.async false
set_option linter.all false
set_option maxRecDepth 100000
set_option maxHeartbeats 4000000
namespace NV
open PySem PySem.Spec PyProof.Rows L2
theorem strI_ok {i : Int} (h0 : 0 ≤ i) (h1 : i ≤ 1000) : strI [.int i] = some (.str (toString i : Str)) := by
  have hl : i.natAbs.log2 < 1920 := Nat.lt_of_le_of_lt (Nat.log2_le_self _) (by omega)
  show (if _ ∧ _ then _ else _) = _
  rw [if_pos]
  refine ⟨hl, ?_⟩
  unfold strGb
  rw [Bool.and_eq_true]
  refine ⟨decide_eq_true (int_text_fits hl), strOk_by fun c hc => ?_⟩
  have e := PySem.Str.ofString_eq_toList (toString i)
  have hc2 : c ∈ (PySem.Str.ofString (toString i)).cps.toList := hc
  rw [e] at hc2
  have hc3 : c ∈ (toString i).toList.map Char.toNat := by simpa using hc2
  obtain ⟨ch, _, rfl⟩ := List.mem_map.mp hc3
  have := ch.valid
  rcases this with q | q
  · exact Nat.lt_trans q (by decide)
  · exact q.2
/-! ### unlike names -/
def LS : List Str := (("abcdefghijklmnopqrstuvwxyz" : Str).cps.toList.map fun c => (⟨#[c]⟩ : Str))
theorem LS_nodup : LS.Nodup := by decide
theorem LS_len : LS.length = 26 := by decide
theorem LS_low : ∀ x ∈ LS, lowS x := fun x hx => by
  have al : LS.all (fun x => decide (x.length ≤ 20) && x.cps.toList.all fun c => decide (97 ≤ c) && decide (c ≤ 122)) = true := by decide
  exact lowS_by (List.all_eq_true.mp al x hx)
theorem LS_items : itemsD (.str "abcdefghijklmnopqrstuvwxyz") = some (LS.map D.str) := by
  show some ((("abcdefghijklmnopqrstuvwxyz" : Str)).cps.toList.map fun c => D.str ⟨#[c]⟩) = _
  unfold LS
  rw [List.map_map]
  rfl
theorem unlike_ok (s : Pu) (many : Int) (h0 : 0 ≤ many) (h7 : many ≤ 7) : ∃ (s' : Pu) (xs : List Str), F__law_unlike [s.d, .int many] = .ok (.tup (xs.map D.str)) [s'.d] ∧ (∀ x ∈ xs, lowS x) ∧ (xs.length : Int) = many := by
  have rg := rng_nat (n := many.toNat) (by omega)
  rw [show ((many.toNat : Nat) : Int) = many by omega] at rg
  obtain ⟨ρ', e, s', xs, x3, x4, x5, he, hlow, hlen⟩ := for_cnt (g := gNm 3) (body := (sSeq (sSet 4 (eCall [true] false F__law_any_name (aCons (rVar 0) aNil))) (sSeq (sIf (tOfE (eOp2 inD (rVar 4) (rVar 2))) (sSet 4 (eOp2 ixD (rOf (eComp (iVal (eC (.str "abcdefghijklmnopqrstuvwxyz"))) (gNm 5) (tOfE (eOp2 notInD (rVar 5) (rVar 2))) (eVar 5) [5])) (rOf (eC (.int 0))))) sNil) (sDrop (eMut 2 isLst appD (lCons (eVar 4) lNil))))))
    (fun k ρ => ∃ (s : Pu) (found : List Str) (x3 x4 x5 : Slot), ρ = [.p s.d, .v (.int many), .o (.lst (found.map D.str)), x3, x4, x5] ∧ (∀ x ∈ found, lowS x) ∧ found.length = k) ((List.range many.toNat).map fun i => D.int ((i : Nat) : Int)) 0
    (fun j d hd ρ ⟨s, found, x3, x4, x5, hr, hl, hk⟩ hj => by
      rw [List.length_map, List.length_range] at hj
      subst hr
      obtain ⟨s1, x, e1, hx, _⟩ := any_call s [.v (.int many), .o (.lst (found.map D.str)), .v d, x4, x5]
      have q1 : inD (.str x) (.lst (found.map D.str)) = some (.bl (decide (x ∈ found))) := in_strsL x found
      have app : ∀ y : Str, appD (.lst (found.map D.str)) [.str y] = some (.lst ((found ++ [y]).map D.str), .non) := fun y => by
        show (if _ < sizeLine then _ else none) = _
        rw [if_pos (by rw [List.length_map, sizeLine_eq]; omega)]
        simp
      by_cases h : x ∈ found
      · obtain ⟨y5, e5⟩ := comp_pure (mt := tOfE (eOp2 notInD (rVar 5) (rVar 2))) (me := eVar 5) (i := 5) (fun z => [.p s1.d, .v (.int many), .o (.lst (found.map D.str)), .v d, .v (.str x), z]) (fun _ _ => rfl) (fun d => !decide (toS d ∈ found)) (fun d => d) (LS.map D.str) (fun d hd => by
          obtain ⟨y, _, rfl⟩ := List.mem_map.mp hd
          simp [notIn_strsL, toS]
          exact decide_eq_decide.mpr Iff.rfl) (fun d _ _ => by simp) [] x5
        rw [List.nil_append, List.map_id'] at e5
        have ne : ∃ y r, (LS.map D.str).filter (fun d => !decide (toS d ∈ found)) = D.str y :: r ∧ lowS y := by
          cases ef : (LS.map D.str).filter (fun d => !decide (toS d ∈ found)) with
          | nil =>
            have all : ∀ y ∈ LS, y ∈ found := fun y hy => by
              have := List.filter_eq_nil_iff.mp ef (.str y) (List.mem_map_of_mem hy)
              simp [toS] at this
              exact of_decide_eq_true this
            have := nodup_len LS found LS_nodup all
            rw [LS_len] at this
            omega
          | cons z r =>
            have hz : z ∈ (LS.map D.str).filter (fun d => !decide (toS d ∈ found)) := by rw [ef]; exact List.mem_cons_self
            obtain ⟨y, hy, rfl⟩ := List.mem_map.mp (List.mem_filter.mp hz).1
            exact ⟨y, r, rfl, LS_low y hy⟩
        obtain ⟨y, r, ef, hy⟩ := ne
        rw [ef] at e5
        have ix : ixD (.lst (D.str y :: r)) (.int 0) = some (.str y) := ix_lst (D.str y :: r) 0 (by simp)
        refine ⟨_, [.p s1.d, .v (.int many), .o (.lst ((found ++ [y]).map D.str)), .v d, .v (.str y), keepV x5], rfl, ?_, s1, found ++ [y], _, _, _, rfl, fun z hz => ?_, by simp [hk]⟩
        · simp [e1, q1, h, LS_items, e5, backE, wipeE, ix, eMut, isLst, app, ownSet]
        · rcases List.mem_append.mp hz with q | q
          · exact hl z q
          · have : z = y := by simpa using q
            exact this ▸ hy
      · refine ⟨_, [.p s1.d, .v (.int many), .o (.lst ((found ++ [x]).map D.str)), .v d, .v (.str x), x5], rfl, ?_, s1, found ++ [x], _, _, _, rfl, fun z hz => ?_, by simp [hk]⟩
        · simp [e1, q1, h, eMut, isLst, app, ownSet]
        · rcases List.mem_append.mp hz with q | q
          · exact hl z q
          · have : z = x := by simpa using q
            exact this ▸ hx) [.p s.d, .v (.int many), .o (.lst []), .no, .no, .no] ⟨s, [], _, _, _, rfl, (fun _ z => by cases z), rfl⟩
  subst he
  rw [List.length_map, List.length_range, Nat.zero_add] at hlen
  refine ⟨s', xs, ?_, hlow, by omega⟩
  have tt : tuple3D [.lst (xs.map D.str)] = some (.tup (xs.map D.str)) := rfl
  simp only [F__law_unlike, m__law_unlike, runF_eq, slots_p, slots_v, slots_nil]
  simp [rg, e, tt]
/-! ### odd things -/
/-- what is drawn of a leaf -/
def leaf (d : D) : Prop := d = .non ∨ (∃ i : Int, d = .int i ∧ 0 ≤ i ∧ i ≤ 1000) ∨ ∃ x : Str, d = .str x ∧ lowS x
theorem rep3 {xs : List D} (h : xs.length ≤ 100) : repD (.lst xs) (.int 3) = some (.lst (xs ++ (xs ++ xs))) := by
  show (if _ then some (D.lst (repL xs 3)) else none) = _
  rw [if_pos ⟨by decide, by decide, by rw [sizeLine_eq]; show xs.length * 3 ≤ _; omega⟩]
  show some (D.lst (List.replicate 3 xs).flatten) = _
  simp [List.replicate]
theorem odd_ok (s : Pu) (d : D) (hd : leaf d) : ∃ (s' : Pu) (z : D), F__law_odd [s.d, d] = .ok z [s'.d] ∧ good z = true := by
  have p1 : powD (.int 10) (.int 20) = some (.int 100000000000000000000) := by
    show (if CPow 10 20 then _ else none) = _
    rw [if_pos ⟨by decide, by decide, by decide⟩]
    rfl
  rcases hd with rfl | ⟨i, rfl, i0, i1⟩ | ⟨x, rfl, hx⟩
  · obtain ⟨L, hL⟩ : ∃ L : List D, L = [.non, .bl true, .bl false, .int 0, .int 1, .int (-1), .int 100000000000000000000, .str "", .str "a", .str "any", .str "fresh", .str "abcdefghi", .str "A", .str "a b", .str "a\n", .tup [], .lst [], .dct []] := ⟨_, rfl⟩
    have gL : L.all good = true := by rw [hL]; rfl
    have ll : L.length = 18 := by rw [hL]; rfl
    obtain ⟨s1, r, e1, r0, r1⟩ := pick_call s [.v .non, .v (.lst L)] 18 (by decide) (by decide)
    obtain ⟨z, ez, hz⟩ := ix_pick (L := L) r0 (by rw [ll]; exact r1)
    refine ⟨s1, z, ?_, List.all_eq_true.mp gL z hz⟩
    have hc : catD (.lst [.non, .bl true, .bl false, .int 0, .int 1, .int (-1), .int 100000000000000000000, .str "", .str "a", .str "any", .str "fresh", .str "abcdefghi", .str "A", .str "a b"]) (.lst [.str "a\n", .tup [], .lst [], .dct []]) = some (.lst L) := by
      rw [hL]
      exact cat_ok (by decide)
    simp only [F__law_odd, m__law_odd, runF_eq, slots_p, slots_v, slots_nil]
    simp [eNeg, p1, hc, isT, lenD, ll, e1, ez]
  · obtain ⟨L0, hL0⟩ : ∃ L : List D, L = [.non, .bl true, .bl false, .int 0, .int 1, .int (-1), .int 100000000000000000000, .str "", .str "a", .str "any", .str "fresh", .str "abcdefghi", .str "A", .str "a b", .str "a\n", .tup [], .lst [], .dct []] := ⟨_, rfl⟩
    obtain ⟨T, hT⟩ : ∃ T : List D, T = [.int (i + 1), .int (i - 1), .int (0 - i), .str (toString i : Str), .tup [.int i], .lst [.int i], .dct [(.inr "a", .int i)]] := ⟨_, rfl⟩
    obtain ⟨L, hL⟩ : ∃ L : List D, L = [.non, .bl true, .bl false, .int 0, .int 1, .int (-1), .int 100000000000000000000, .str "", .str "a"] ++ (T ++ (T ++ T)) := ⟨_, rfl⟩
    have gL : L.all good = true := by rw [hL, hT]; rfl
    have lT : T.length = 7 := by rw [hT]; rfl
    have ll : L.length = 30 := by rw [hL, hT]; rfl
    obtain ⟨s1, r, e1, r0, r1⟩ := pick_call s [.v (.int i), .v (.lst L)] 30 (by decide) (by decide)
    obtain ⟨z, ez, hz⟩ := ix_pick (L := L) r0 (by rw [ll]; exact r1)
    refine ⟨s1, z, ?_, List.all_eq_true.mp gL z hz⟩
    have hc : catD (.lst [.non, .bl true, .bl false, .int 0, .int 1, .int (-1), .int 100000000000000000000, .str "", .str "a", .str "any", .str "fresh", .str "abcdefghi", .str "A", .str "a b"]) (.lst [.str "a\n", .tup [], .lst [], .dct []]) = some (.lst L0) := by
      rw [hL0]
      exact cat_ok (by decide)
    have hs : ∀ ρ, eSl (rVar 2) oNo (oSome (eC (.int 9))) (.p s.d :: .v (.int i) :: .v (.lst L0) :: ρ) = .ok (.lst (L0.take 9)) (.p s.d :: .v (.int i) :: .v (.lst L0) :: ρ) := fun ρ => by
      have : slD (.lst L0) none (some 9) = some (.lst (L0.take 9)) := by
        show some (D.lst (cutL L0 none (some ((9 : Nat) : Int)))) = _
        rw [cut_to]
      simp [eSl, oNo, oSome, asI, this]
    have r3 : repD (.lst T) (.int 3) = some (.lst (T ++ (T ++ T))) := rep3 (by omega)
    have hc2 : catD (.lst (L0.take 9)) (.lst (T ++ (T ++ T))) = some (.lst L) := by
      rw [cat_ok (by rw [List.length_take, List.length_append, List.length_append, lT]; omega), hL, hL0]
      rfl
    have dc : keysD [(.str "a", .int i)] = some [(.inr "a", .int i)] := rfl
    have T' : [D.int (i + 1), .int (i - 1), .int (0 - i), .str (toString i : Str), .tup [.int i], .lst [.int i], .dct [(.inr "a", .int i)]] = T := hT.symm
    have T2 : [D.int (i + 1), .int (i - 1), .int (-i), .str (PySem.Str.ofString i.repr), .tup [.int i], .lst [.int i], .dct [(.inr "a", .int i)]] = T := by rw [hT, Int.zero_sub]; rfl
    simp only [F__law_odd, m__law_odd, runF_eq, slots_p, slots_v, slots_nil]
    simp [eNeg, p1, hc, isT, lenD, hs, strI_ok i0 i1, eDct, pCons, pNil, dc, T', T2, lT, r3, hc2, ll, e1, ez]
  · obtain ⟨L0, hL0⟩ : ∃ L : List D, L = [.non, .bl true, .bl false, .int 0, .int 1, .int (-1), .int 100000000000000000000, .str "", .str "a", .str "any", .str "fresh", .str "abcdefghi", .str "A", .str "a b", .str "a\n", .tup [], .lst [], .dct []] := ⟨_, rfl⟩
    have lx := hx.1
    obtain ⟨y1, hy1⟩ : ∃ y, slD (.str x) (some 1) none = some (.str y) := ⟨_, rfl⟩
    obtain ⟨T, hT⟩ : ∃ T : List D, T = [.str (x ++ "z"), .str y1, .str (Txt.upper x), .str (x ++ " "), .str ("a" ++ x), .tup [.str x], .lst [.str x]] := ⟨_, rfl⟩
    obtain ⟨L, hL⟩ : ∃ L : List D, L = (L0 ++ T) ++ [.str (revS x)] := ⟨_, rfl⟩
    have gL : L.all good = true := by rw [hL, hL0, hT]; rfl
    have lT : T.length = 7 := by rw [hT]; rfl
    have l0 : L0.length = 18 := by rw [hL0]; rfl
    have ll : L.length = 26 := by rw [hL, List.length_append, List.length_append, l0, lT]; rfl
    obtain ⟨s1, r, e1, r0, r1⟩ := pick_call s [.v (.str x), .v (.lst L)] 26 (by decide) (by decide)
    obtain ⟨z, ez, hz⟩ := ix_pick (L := L) r0 (by rw [ll]; exact r1)
    refine ⟨s1, z, ?_, List.all_eq_true.mp gL z hz⟩
    have hc : catD (.lst [.non, .bl true, .bl false, .int 0, .int 1, .int (-1), .int 100000000000000000000, .str "", .str "a", .str "any", .str "fresh", .str "abcdefghi", .str "A", .str "a b"]) (.lst [.str "a\n", .tup [], .lst [], .dct []]) = some (.lst L0) := by
      rw [hL0]
      exact cat_ok (by decide)
    have hs : ∀ ρ, eSl (rVar 1) (oSome (eC (.int 1))) oNo (.p s.d :: .v (.str x) :: ρ) = .ok (.str y1) (.p s.d :: .v (.str x) :: ρ) := fun ρ => by simp [eSl, oNo, oSome, asI, hy1]
    have a1 : addD (.str x) (.str "z") = some (.str (x ++ "z")) := add_str (by show x.length + 1 ≤ _; omega)
    have a2 : addD (.str x) (.str " ") = some (.str (x ++ " ")) := add_str (by show x.length + 1 ≤ _; omega)
    have a3 : addD (.str "a") (.str x) = some (.str ("a" ++ x)) := add_str (by show 1 + x.length ≤ _; omega)
    obtain ⟨u1, u2⟩ := upper_ok hx
    have T' : [D.str (x ++ "z"), .str y1, .str (Txt.upper x), .str (x ++ " "), .str ("a" ++ x), .tup [.str x], .lst [.str x]] = T := hT.symm
    have hc2 : catD (.lst L0) (.lst T) = some (.lst (L0 ++ T)) := cat_ok (by omega)
    have hc3 : catD (.lst (L0 ++ T)) (.lst [.str (revS x)]) = some (.lst L) := by
      rw [hL]
      exact cat_ok (by rw [List.length_append, l0, lT]; show 18 + 7 + 1 ≤ 16777216; decide)
    have rv : revD (.str x) = some (.str (revS x)) := rfl
    simp only [F__law_odd, m__law_odd, runF_eq, slots_p, slots_v, slots_nil]
    simp [eNeg, p1, hc, isT, lenD, hs, a1, a2, a3, eUpper, u1, u2, T', lT, hc2, eRev, rv, hc3, ll, e1, ez]
end NV

set_option Elab.async false
set_option linter.all false
set_option maxRecDepth 100000
set_option maxHeartbeats 4000000
namespace NV
open PySem PySem.Spec PyProof.Rows L2
theorem unlike_call (s : Pu) (ρ : Env) (many : Int) (h0 : 0 ≤ many) (h7 : many ≤ 7) : ∃ (s' : Pu) (xs : List Str), callG [true, false] false F__law_unlike [.own 0, .val (.int many)] (.p s.d :: ρ) = .ok (.tup (xs.map D.str)) (.p s'.d :: ρ) ∧ (∀ x ∈ xs, lowS x) ∧ (xs.length : Int) = many := by
  obtain ⟨s', xs, h, h2⟩ := unlike_ok s many h0 h7
  exact ⟨s', xs, call_own (i := 0) rfl rfl h rfl, h2⟩
theorem kind_call' (s : Pu) (ρ : Env) : ∃ (s' : Pu) (x : Str), callG [true] false F__law_kind [.own 0] (.p s.d :: ρ) = .ok (.str x) (.p s'.d :: ρ) ∧ lowS x := by
  obtain ⟨s', x, h, h2⟩ := kind_ok s
  exact ⟨s', x, call_own (i := 0) rfl rfl h rfl, h2⟩
theorem odd_call (s : Pu) (ρ : Env) (d : D) (hd : leaf d) : ∃ (s' : Pu) (z : D), callG [true, false] false F__law_odd [.own 0, .val d] (.p s.d :: ρ) = .ok z (.p s'.d :: ρ) ∧ good z = true := by
  obtain ⟨s', z, h, h2⟩ := odd_ok s d hd
  exact ⟨s', z, call_own (i := 0) rfl rfl h rfl, h2⟩
theorem ix_ints {L : List Int} {r : Int} (h0 : 0 ≤ r) (h1 : r < (L.length : Int)) : ∃ z : Int, ixD (.lst (L.map D.int)) (.int r) = some (.int z) ∧ z ∈ L := by
  obtain ⟨z, e, hz⟩ := ix_pick (L := L.map D.int) h0 (by rw [List.length_map]; exact h1)
  obtain ⟨i, hi, rfl⟩ := List.mem_map.mp hz
  exact ⟨i, e, hi⟩
/-- what is turned: n deep -/
def tIn : Nat → D → Prop
  | 0, d => leaf d
  | n + 1, d => leaf d ∨ ∃ xs : List D, d = .tup xs ∧ xs.length ≤ 10 ∧ ∀ x ∈ xs, tIn n x
theorem leaf_good {d : D} (h : leaf d) : good d = true := by
  rcases h with rfl | ⟨i, rfl, _⟩ | ⟨x, rfl, _⟩ <;> rfl
theorem tIn_good : ∀ (n : Nat) {d : D}, tIn n d → good d = true
  | 0, _, h => leaf_good h
  | n + 1, _, h => by
    rcases h with h | ⟨xs, rfl, hl, hx⟩
    · exact leaf_good h
    · rw [good_tup, Bool.and_eq_true]
      exact ⟨List.all_eq_true.mpr fun d hd => tIn_good n (hx d hd), decide_eq_true (by omega)⟩
theorem tIn_up {n : Nat} {d : D} (h : leaf d) : tIn n d := by
  cases n with
  | zero => exact h
  | succ n => exact .inl h
theorem tIn_names {n : Nat} {xs : List Str} (h : ∀ x ∈ xs, lowS x) (hl : xs.length ≤ 10) : tIn (n + 1) (.tup (xs.map D.str)) :=
  .inr ⟨_, rfl, by rw [List.length_map]; exact hl, fun d hd => by
    obtain ⟨x, hx, rfl⟩ := List.mem_map.mp hd
    exact tIn_up (.inr (.inr ⟨x, rfl, h x hx⟩))⟩
end NV

set_option Elab.async false
set_option linter.all false
set_option maxRecDepth 100000
set_option maxHeartbeats 4000000
namespace NV
open PySem PySem.Spec PyProof.Rows L2
/-- a cut of a tuple -/
theorem sl_sub (xs : List D) (lo hi : Option Int) : ∃ ys, slD (.tup xs) lo hi = some (.tup ys) ∧ (∀ y ∈ ys, y ∈ xs) ∧ ys.length ≤ xs.length := by
  refine ⟨cutL xs lo hi, rfl, fun y hy => ?_, ?_⟩
  · unfold cutL at hy
    exact List.mem_of_mem_drop (List.mem_of_mem_take hy)
  · unfold cutL
    rw [List.length_take, List.length_drop]
    omega
theorem isT_leaf {d : D} (h : leaf d) : isT .tuple d = some (.bl false) := by
  rcases h with rfl | ⟨i, rfl, _⟩ | ⟨x, rfl, _⟩ <;> rfl
theorem good_of {xs : List D} (h : ∀ x ∈ xs, good x = true) (hl : xs.length < 4000) : good (.tup xs) = true := by
  rw [good_tup, Bool.and_eq_true]
  exact ⟨List.all_eq_true.mpr h, decide_eq_true hl⟩
theorem turned_ok : ∀ (n k : Nat), n < k → ∀ (s : Pu) (d : D), tIn n d → ∃ (s' : Pu) (z : D), recF [true, false] 4 m__law_turned k [s.d, d] = .ok z [s'.d] ∧ good z = true
  | n, 0, hk, _, _, _ => by omega
  | n, k + 1, hk, s, d, hd => by
    have lf : leaf d → ∃ (s' : Pu) (z : D), recF [true, false] 4 m__law_turned (k + 1) [s.d, d] = .ok z [s'.d] ∧ good z = true := fun h => by
      obtain ⟨s1, z, e, hz⟩ := odd_call s [.v d, .no, .no] d h
      refine ⟨s1, z, ?_, hz⟩
      unfold recF
      simp only [m__law_turned, runF_eq, slots_p, slots_v, slots_nil]
      simp [isT_leaf h, e]
    cases n with
    | zero => exact lf hd
    | succ n =>
      rcases hd with h | ⟨xs, rfl, hl, hx⟩
      · exact lf h
      · have gx : ∀ x ∈ xs, good x = true := fun x h => tIn_good n (hx x h)
        obtain ⟨s1, at_, e1, a0, a1⟩ := pick_call s [.v (.tup xs), .no, .no] ((xs.length : Int) + 1) (by omega) (by omega)
        obtain ⟨y1, f1, m1, l1⟩ := sl_sub xs none (some at_)
        obtain ⟨y2, f2, m2, l2⟩ := sl_sub xs (some (at_ + 1)) none
        obtain ⟨y3, f3, m3, l3⟩ := sl_sub xs (some at_) (some (at_ + 1))
        obtain ⟨y4, f4, m4, l4⟩ := sl_sub xs (some at_) none
        have s1e : ∀ (u : Pu) (ρ : Env), eSl (rVar 1) oNo (oSome (eVar 2)) (.p u.d :: .v (.tup xs) :: .v (.int at_) :: ρ) = .ok (.tup y1) (.p u.d :: .v (.tup xs) :: .v (.int at_) :: ρ) := fun u ρ => by simp [eSl, oNo, oSome, asI, f1]
        have s2e : ∀ (u : Pu) (ρ : Env), eSl (rVar 1) (oSome (eOp2 addD (rVar 2) (rOf (eC (.int 1))))) oNo (.p u.d :: .v (.tup xs) :: .v (.int at_) :: ρ) = .ok (.tup y2) (.p u.d :: .v (.tup xs) :: .v (.int at_) :: ρ) := fun u ρ => by simp [eSl, oNo, oSome, asI, f2]
        have s3e : ∀ (u : Pu) (ρ : Env), eSl (rVar 1) (oSome (eVar 2)) (oSome (eOp2 addD (rVar 2) (rOf (eC (.int 1))))) (.p u.d :: .v (.tup xs) :: .v (.int at_) :: ρ) = .ok (.tup y3) (.p u.d :: .v (.tup xs) :: .v (.int at_) :: ρ) := fun u ρ => by simp [eSl, oNo, oSome, asI, f3]
        have s4e : ∀ (u : Pu) (ρ : Env), eSl (rVar 1) (oSome (eVar 2)) oNo (.p u.d :: .v (.tup xs) :: .v (.int at_) :: ρ) = .ok (.tup y4) (.p u.d :: .v (.tup xs) :: .v (.int at_) :: ρ) := fun u ρ => by simp [eSl, oNo, oSome, asI, f4]
        have ad : ∀ {a b : List D}, a.length ≤ 30 → b.length ≤ 30 → addD (.tup a) (.tup b) = some (.tup (a ++ b)) := fun h1 h2 => add_tup (by omega)
        have down : ∀ s1 : Pu, ∃ (s' : Pu) (z : D) (ρ : Env), (sSeq (sSet 3 (eLst (lCons (eOp2 addD (rOf (eSl (rVar 1) oNo (oSome (eVar 2)))) (rOf (eSl (rVar 1) (oSome (eOp2 addD (rVar 2) (rOf (eC (.int 1))))) oNo))) (lCons (eOp2 addD (rOf (eOp2 addD (rOf (eSl (rVar 1) oNo (oSome (eVar 2)))) (rOf (eSl (rVar 1) (oSome (eVar 2)) (oSome (eOp2 addD (rVar 2) (rOf (eC (.int 1))))))))) (rOf (eSl (rVar 1) (oSome (eVar 2)) oNo))) (lCons (eCallB listD (aCons (rVar 1) aNil)) lNil))))) (sSeq (sSet 3 (eOp2 catD (rVar 3) (rOf (eLst (lCons (eRev (rVar 1)) (lCons (eTup (lCons (eVar 1) lNil)) lNil)))))) (sRet (eOp2 ixD (rOf (eOp2 catD (rVar 3) (rOf (eLst (lCons (eOp2 addD (rOf (eOp2 addD (rOf (eSl (rVar 1) oNo (oSome (eVar 2)))) (rOf (eTup (lCons (eCall [true, false] false F__law_odd (aCons (rVar 0) (aCons (rOf (eC .non)) aNil))) lNil))))) (rOf (eSl (rVar 1) (oSome (eVar 2)) oNo))) (lCons (eTup lNil) lNil)))))) (rOf (eCall [true, false] false F__law_pick (aCons (rVar 0) (aCons (rOf (eC (.int 7))) aNil)))))))) [.p s1.d, .v (.tup xs), .v (.int at_), .no] = .rt z (.p s'.d :: .v (.tup xs) :: ρ) ∧ good z = true := by
          intro s1
          have ld : listD [.tup xs] = some (.lst xs) := rfl
          have rv : revD (.tup xs) = some (.tup xs.reverse) := rfl
          obtain ⟨L1, hL1⟩ : ∃ L : List D, L = [.tup (y1 ++ y2), .tup ((y1 ++ y3) ++ y4), .lst xs] ++ [.tup xs.reverse, .tup [.tup xs]] := ⟨_, rfl⟩
          obtain ⟨s2, z0, e2, hz0⟩ := odd_call s1 [.v (.tup xs), .v (.int at_), .v (.lst L1)] .non (.inl rfl)
          obtain ⟨s3, r, e3, b0, b1⟩ := pick_call s2 [.v (.tup xs), .v (.int at_), .v (.lst L1)] 7 (by decide) (by decide)
          obtain ⟨L, hL⟩ : ∃ L : List D, L = L1 ++ [.tup ((y1 ++ [z0]) ++ y4), .tup []] := ⟨_, rfl⟩
          have ll : L.length = 7 := by rw [hL, hL1]; rfl
          obtain ⟨z, ez, hz⟩ := ix_pick (L := L) b0 (by rw [ll]; exact b1)
          have gz : good z = true := by
            have mem : ∀ {a b : List D}, (∀ y ∈ a, good y = true) → (∀ y ∈ b, good y = true) → ∀ y ∈ a ++ b, good y = true := fun h1 h2 y hy => (List.mem_append.mp hy).elim (h1 y) (h2 y)
            have g1 := fun y h => gx y (m1 y h)
            have g2 := fun y h => gx y (m2 y h)
            have g3 := fun y h => gx y (m3 y h)
            have g4 := fun y h => gx y (m4 y h)
            rw [hL, hL1] at hz
            simp only [List.mem_append, List.mem_cons, List.not_mem_nil, or_false] at hz
            rcases hz with ((rfl | rfl | rfl) | (rfl | rfl)) | (rfl | rfl)
            · exact good_of (mem g1 g2) (by rw [List.length_append]; omega)
            · exact good_of (mem (mem g1 g3) g4) (by rw [List.length_append, List.length_append]; omega)
            · rfl
            · exact good_of (fun y hy => gx y (List.mem_reverse.mp hy)) (by rw [List.length_reverse]; omega)
            · exact good_of (fun y hy => by
                have : y = .tup xs := by simpa using hy
                exact this ▸ good_of gx (by omega)) (by simp)
            · exact good_of (mem (mem g1 fun y hy => by
                have : y = z0 := by simpa using hy
                exact this ▸ hz0) g4) (by simp only [List.length_append, List.length_cons, List.length_nil]; omega)
            · exact good_of (fun _ h => by cases h) (by simp)
          have c1 : catD (.lst [.tup (y1 ++ y2), .tup ((y1 ++ y3) ++ y4), .lst xs]) (.lst [.tup xs.reverse, .tup [.tup xs]]) = some (.lst L1) := by rw [hL1]; exact cat_ok (by simp)
          have c2 : catD (.lst L1) (.lst [.tup ((y1 ++ [z0]) ++ y4), .tup []]) = some (.lst L) := by rw [hL]; exact cat_ok (by rw [hL1]; simp)
          have d1 : addD (.tup y1) (.tup y2) = some (.tup (y1 ++ y2)) := ad (by omega) (by omega)
          have d2 : addD (.tup y1) (.tup y3) = some (.tup (y1 ++ y3)) := ad (by omega) (by omega)
          have d3 : addD (.tup (y1 ++ y3)) (.tup y4) = some (.tup ((y1 ++ y3) ++ y4)) := ad (by rw [List.length_append]; omega) (by omega)
          have d4 : addD (.tup y1) (.tup [z0]) = some (.tup (y1 ++ [z0])) := ad (by omega) (by simp)
          have d5 : addD (.tup (y1 ++ [z0])) (.tup y4) = some (.tup ((y1 ++ [z0]) ++ y4)) := ad (by rw [List.length_append]; simp; omega) (by omega)
          refine ⟨s3, z, [.v (.int at_), .v (.lst L1)], ?_, gz⟩
          simp [s1e, s2e, s3e, s4e, d1, d2, d3, d4, d5, ld, eRev, rv, c1, e2, c2, e3, ez, -List.append_assoc]
        have e1' : callG [true, false] false F__law_pick [.own 0, .val (.int ((xs.length : Int) + 1))] [.p s.d, .v (.tup xs), .no, .no] = .ok (.int at_) [.p s1.d, .v (.tup xs), .no, .no] := e1
        by_cases hlt : at_ < (xs.length : Int)
        · obtain ⟨s2, r, e2, b0, b1⟩ := pick_call s1 [.v (.tup xs), .v (.int at_), .no] 4 (by decide) (by decide)
          by_cases hr : 0 < r
          · have hi : at_.toNat < xs.length := by omega
            have ix := ix_tup xs at_.toNat hi
            rw [show ((at_.toNat : Nat) : Int) = at_ by omega] at ix
            obtain ⟨s3, z, e3, hz⟩ := turned_ok n k (by omega) s2 xs[at_.toNat] (hx _ (List.getElem_mem hi))
            have e3' : callG [true, false] false (recF [true, false] 4 m__law_turned k) [.own 0, .val xs[at_.toNat]] [.p s2.d, .v (.tup xs), .v (.int at_), .no] = .ok z [.p s3.d, .v (.tup xs), .v (.int at_), .no] := call_own (i := 0) rfl rfl e3 rfl
            have d4 : addD (.tup y1) (.tup [z]) = some (.tup (y1 ++ [z])) := ad (by omega) (by simp)
            have d5 : addD (.tup (y1 ++ [z])) (.tup y2) = some (.tup ((y1 ++ [z]) ++ y2)) := ad (by rw [List.length_append]; simp; omega) (by omega)
            refine ⟨s3, .tup ((y1 ++ [z]) ++ y2), ?_, good_of (fun y hy => ?_) (by simp only [List.length_append, List.length_cons, List.length_nil]; omega)⟩
            · unfold recF
              simp only [m__law_turned, runF_eq, slots_p, slots_v, slots_nil]
              simp [isT, lenD, e1', hlt, e2, hr, s1e, s2e, ix, e3', d4, d5, -List.append_assoc]
            · rcases List.mem_append.mp hy with q | q
              · rcases List.mem_append.mp q with q | q
                · exact gx y (m1 y q)
                · have : y = z := by simpa using q
                  exact this ▸ hz
              · exact gx y (m2 y q)
          · obtain ⟨s', z, ρ, e3, hz⟩ := down s2
            refine ⟨s', z, ?_, hz⟩
            unfold recF
            simp only [m__law_turned, runF_eq, slots_p, slots_v, slots_nil]
            generalize hb : (sSeq (sSet 3 (eLst _)) _) = bd at e3
            simp [isT, lenD, e1', hlt, e2, hr, hb]
            rw [e3]
            simp
        · obtain ⟨s', z, ρ, e3, hz⟩ := down s1
          refine ⟨s', z, ?_, hz⟩
          unfold recF
          simp only [m__law_turned, runF_eq, slots_p, slots_v, slots_nil]
          generalize hb : (sSeq (sSet 3 (eLst _)) _) = bd at e3
          simp [isT, lenD, e1', hlt, hb]
          rw [e3]
          simp
end NV

set_option Elab.async false
set_option linter.all false
set_option maxRecDepth 100000
set_option maxHeartbeats 4000000
namespace NV
open PySem PySem.Spec PyProof.Rows L2
def gV : D → Env → Option Env := (gTp 2 (gsCons (gNm 3) (gsCons (gNm 4) gsNil)))
def bodyV : SM := (sIf (tOfE (eOp2 inD (rVar 3) (rVar 1))) (sDrop (eMut 2 isLst extD (lCons (eCallB listD (aCons (rVar 4) aNil)) lNil))) sNil)
def bodyDu : SM := (sSet 2 (eOp2 catD (rVar 2) (rOf (eComp (iVal (eOp2 ixD (rVar 3) (rOf (eC (.int 1))))) (gNm 4) (tOfE (eOp2 inD (rOf (eOp2 ixD (rVar 3) (rOf (eC (.int 0))))) (rOf (eOp2 ixD (rVar 1) (rOf (eC (.int 2))))))) (eVar 4) [4]))))
theorem name_str {a : D} (h : nameB a = true) : a = .str (toS a) := by
  cases a with
  | str x => rfl
  | _ => cases h
theorem names_strs {m : Int} {d : D} (h : namesB m d = true) : ∃ ss : List Str, d = .tup (ss.map D.str) ∧ 1 ≤ ss.length ∧ (ss.length : Int) ≤ m := by
  unfold namesB at h
  split at h
  · rename_i xs
    simp only [Bool.and_eq_true, decide_eq_true_eq] at h
    obtain ⟨⟨⟨h1, h2⟩, h3⟩, h4⟩ := h
    have e := (strsOf_names h3).2
    exact ⟨xs.map toS, by rw [← e], by rw [List.length_map]; omega, by rw [List.length_map]; exact h2⟩
  · cases h
theorem band_shape {d : D} (h : bandB d = true) : ∃ (b : Str) (ms : List Str), d = .tup [.str b, .tup (ms.map D.str)] ∧ (ms.length : Int) ≤ 6 := by
  unfold bandB at h
  split at h
  · rename_i a b
    rw [Bool.and_eq_true] at h
    obtain ⟨ms, rfl, _, h6⟩ := names_strs h.2
    exact ⟨toS a, ms, by rw [← name_str h.1], h6⟩
  · cases h
theorem song_shape {d : D} (h : songB d = true) : ∃ (x : D) (i : Int) (ss : List Str) (k : D), d = .tup [x, .int i, .tup (ss.map D.str), k] ∧ 1 ≤ ss.length ∧ (ss.length : Int) ≤ 4 := by
  unfold songB at h
  split at h
  · rename_i a i c d
    simp only [Bool.and_eq_true] at h
    obtain ⟨ss, rfl, h1, h4⟩ := names_strs h.1.2
    exact ⟨a, i, ss, d, rfl, h1, h4⟩
  · cases h
/-- the members of a band that is among the singers -/
def memS (ss : List Str) : D → List Str
  | .tup [.str b, .tup ms] => if b ∈ ss then ms.map toS else []
  | _ => []
def heard (ss : List Str) (bs : List D) : List Str := ss ++ (bs.map (memS ss)).flatten
theorem map_toS (ss : List Str) : (ss.map D.str).map toS = ss := by
  rw [List.map_map]
  exact List.map_id _
theorem memS_eq (ss : List Str) (b : Str) (ms : List Str) : memS ss (.tup [.str b, .tup (ms.map D.str)]) = if b ∈ ss then ms else [] := by
  show (if b ∈ ss then (ms.map D.str).map toS else []) = _
  rw [map_toS]
theorem v_loop (BS : D) (ss : List Str) : ∀ (bs : List D) (acc : List Str) (s3 s4 : Slot), (∀ d ∈ bs, bandB d = true) → acc.length + 6 * bs.length ≤ 1000 →
    ∃ t3 t4, forL gV bodyV bs [.v BS, .v (.tup (ss.map D.str)), .o (.lst (acc.map D.str)), s3, s4] = .nx [.v BS, .v (.tup (ss.map D.str)), .o (.lst ((acc ++ (bs.map (memS ss)).flatten).map D.str)), t3, t4]
  | [], acc, s3, s4, _, _ => ⟨s3, s4, by rw [List.map_nil, List.flatten_nil, List.append_nil]; rfl⟩
  | d :: bs, acc, s3, s4, h, hl => by
    obtain ⟨b, ms, rfl, h6⟩ := band_shape (h d List.mem_cons_self)
    rw [List.length_cons] at hl
    have gg : gV (.tup [.str b, .tup (ms.map D.str)]) [.v BS, .v (.tup (ss.map D.str)), .o (.lst (acc.map D.str)), s3, s4] = some [.v BS, .v (.tup (ss.map D.str)), .o (.lst (acc.map D.str)), .v (.str b), .v (.tup (ms.map D.str))] := rfl
    have inn := in_strs b ss
    have li : listD [.tup (ms.map D.str)] = some (.lst (ms.map D.str)) := rfl
    have ex : extD (.lst (acc.map D.str)) [.lst (ms.map D.str)] = some (.lst ((acc ++ ms).map D.str), .non) := by
      show (if _ ≤ sizeLine then _ else none) = _
      rw [if_pos (by rw [sizeLine_eq, List.length_map, List.length_map]; omega), List.map_append]
    have e1 : bodyV [.v BS, .v (.tup (ss.map D.str)), .o (.lst (acc.map D.str)), .v (.str b), .v (.tup (ms.map D.str))] = .nx [.v BS, .v (.tup (ss.map D.str)), .o (.lst ((acc ++ memS ss (.tup [.str b, .tup (ms.map D.str)])).map D.str)), .v (.str b), .v (.tup (ms.map D.str))] := by
      rw [memS_eq]
      by_cases hb : b ∈ ss
      · rw [if_pos hb]
        rw [decide_eq_true hb] at inn
        generalize (acc ++ ms).map D.str = Q at *
        generalize D.tup (ms.map D.str) = MM at *
        generalize ms.map D.str = M2 at *
        generalize D.tup (ss.map D.str) = SS at *
        generalize acc.map D.str = A at *
        simp [bodyV, inn, eMut, isLst, li, ex, ownSet]
      · rw [if_neg hb, List.append_nil]
        rw [decide_eq_false hb] at inn
        generalize D.tup (ss.map D.str) = SS at *
        generalize acc.map D.str = A at *
        simp [bodyV, inn]
    have lm : (memS ss (.tup [.str b, .tup (ms.map D.str)])).length ≤ 6 := by
      rw [memS_eq]
      split
      · omega
      · simp
    obtain ⟨t3, t4, ih⟩ := v_loop BS ss bs (acc ++ memS ss (.tup [.str b, .tup (ms.map D.str)])) (.v (.str b)) (.v (.tup (ms.map D.str))) (fun d hd => h d (List.mem_cons_of_mem _ hd)) (by rw [List.length_append]; omega)
    refine ⟨t3, t4, ?_⟩
    unfold forL
    simp only [gg, e1]
    rw [ih, List.map_cons, List.flatten_cons, List.append_assoc]
theorem heard_len {ss : List Str} {bs : List D} (hs : ss.length ≤ 4) (hb : ∀ d ∈ bs, bandB d = true) (hl : bs.length ≤ 6) : (heard ss bs).length ≤ 40 := by
  have : ∀ l : List D, (∀ d ∈ l, bandB d = true) → ((l.map (memS ss)).flatten).length ≤ 6 * l.length := fun l => by
    induction l with
    | nil => intro _; simp
    | cons d l ih =>
      intro h
      have h1 := ih fun d hd => h d (List.mem_cons_of_mem _ hd)
      obtain ⟨b, ms, rfl, h6⟩ := band_shape (h d List.mem_cons_self)
      rw [List.map_cons, List.flatten_cons, List.length_append, List.length_cons, memS_eq]
      split
      · omega
      · simp only [List.length_nil]; omega
  have h2 := this bs hb
  unfold heard
  rw [List.length_append]
  omega
theorem strs_of (l : List Str) : strsOf (l.map D.str) = some l := by
  induction l with
  | nil => rfl
  | cons y l ih =>
    show (strsOf (l.map D.str)).map _ = _
    rw [ih]
    rfl
def voiceS (ss : List Str) (bs : List D) : List Str := sortW (NVS.dd (heard ss bs))
theorem voices_of_eq {ss : List Str} {bs : List D} (hs : ss.length ≤ 4) (hb : ∀ d ∈ bs, bandB d = true) (hl : bs.length ≤ 6) : F_voices_of [.tup bs, .tup (ss.map D.str)] = .ok (.tup ((voiceS ss bs).map D.str)) [] := by
  obtain ⟨t3, t4, e⟩ := v_loop (.tup bs) ss bs ss .no .no hb (by omega)
  have hh := heard_len hs hb hl
  have li : listD [.tup (ss.map D.str)] = some (.lst (ss.map D.str)) := rfl
  have it : itemsD (.tup bs) = some bs := rfl
  have so := strs_of (heard ss bs)
  have tu : ∀ l : List D, tuple3D [.lst l] = some (.tup l) := fun _ => rfl
  have hh2 : (heard ss bs).length < 64 := by omega
  have e' : forL gV bodyV bs [.v (.tup bs), .v (.tup (ss.map D.str)), .o (.lst (ss.map D.str)), .no, .no] = .nx [.v (.tup bs), .v (.tup (ss.map D.str)), .o (.lst ((heard ss bs).map D.str)), t3, t4] := e
  unfold gV bodyV at e'
  unfold voiceS
  have so2 : ∀ ρ : Env, ∀ x : RV, x.get ρ = some (.lst ((heard ss bs).map D.str)) → eSortT (fun r => .ok x r) ρ = .ok (.lst ((sortW (NVS.dd (heard ss bs))).map D.str)) ρ := fun ρ x hx => by
    simp [eSortT, hx, so, hh2]
  have e5 : eSortT (rVar 2) [.v (.tup bs), .v (.tup (ss.map D.str)), .o (.lst ((heard ss bs).map D.str)), t3, t4] = .ok (.lst ((sortW (NVS.dd (heard ss bs))).map D.str)) [.v (.tup bs), .v (.tup (ss.map D.str)), .o (.lst ((heard ss bs).map D.str)), t3, t4] := by
    simp [eSortT, so, hh2]
  generalize (sortW (NVS.dd (heard ss bs))).map D.str = V at *
  generalize (heard ss bs).map D.str = hd at *
  clear so2
  generalize D.tup bs = BS at *
  generalize D.tup (ss.map D.str) = SS at *
  generalize ss.map D.str = S2 at *
  simp [F_voices_of, m_voices_of, li, it, e', e5, tu]
/-! ### the law's own -/
theorem due_loop (BS SG X K : D) (ss : List Str) (i2 : ixD SG (.int 2) = some (.tup (ss.map D.str))) : ∀ (bs : List D) (acc : List Str) (s3 s4 s5 : Slot), (∀ d ∈ bs, bandB d = true) → acc.length + 6 * bs.length ≤ 1000 →
    ∃ t3 t4, forL (gNm 3) bodyDu bs [.v BS, .v SG, .v (.lst (acc.map D.str)), s3, s4, s5] = .nx [.v BS, .v SG, .v (.lst ((acc ++ (bs.map (memS ss)).flatten).map D.str)), t3, t4, s5]
  | [], acc, s3, s4, s5, _, _ => ⟨s3, s4, by rw [List.map_nil, List.flatten_nil, List.append_nil]; rfl⟩
  | d :: bs, acc, s3, s4, s5, h, hl => by
    obtain ⟨b, ms, rfl, h6⟩ := band_shape (h d List.mem_cons_self)
    rw [List.length_cons] at hl
    have inn := in_strs b ss
    obtain ⟨Z, hZ⟩ : ∃ Z, Z = D.tup [.str b, .tup (ms.map D.str)] := ⟨_, rfl⟩
    have j0 : ixD Z (.int 0) = some (.str b) := by rw [hZ]; rfl
    have j1 : ixD Z (.int 1) = some (.tup (ms.map D.str)) := by rw [hZ]; rfl
    have it : itemsD (.tup (ms.map D.str)) = some (ms.map D.str) := rfl
    rw [← hZ]
    obtain ⟨y, e⟩ := comp_pure (mt := (tOfE (eOp2 inD (rOf (eOp2 ixD (rVar 3) (rOf (eC (.int 0))))) (rOf (eOp2 ixD (rVar 1) (rOf (eC (.int 2)))))))) (me := (eVar 4)) (i := 4) (fun s => [.v BS, .v SG, .v (.lst (acc.map D.str)), .v Z, s, s5]) (fun _ _ => rfl) (fun _ => decide (b ∈ ss)) id (ms.map D.str) (fun d _ => by simp [j0, i2, inn]) (fun d _ _ => by simp) [] s4
    rw [List.nil_append, List.map_id] at e
    have fe : (ms.map D.str).filter (fun _ => decide (b ∈ ss)) = (memS ss Z).map D.str := by
      rw [hZ, memS_eq]
      by_cases hb : b ∈ ss
      · rw [if_pos hb]
        exact List.filter_eq_self.mpr fun _ _ => decide_eq_true hb
      · rw [if_neg hb]
        rw [List.filter_eq_nil_iff.mpr fun _ _ => by rw [decide_eq_false hb]; exact Bool.false_ne_true]
        rfl
    rw [fe] at e
    have lm : (memS ss Z).length ≤ 6 := by
      rw [hZ, memS_eq]
      split
      · omega
      · simp
    have ca : catD (.lst (acc.map D.str)) (.lst ((memS ss Z).map D.str)) = some (.lst ((acc ++ memS ss Z).map D.str)) := by
      rw [List.map_append]
      exact cat_ok (by rw [List.length_map, List.length_map]; omega)
    have e1 : bodyDu [.v BS, .v SG, .v (.lst (acc.map D.str)), .v Z, s4, s5] = .nx [.v BS, .v SG, .v (.lst ((acc ++ memS ss Z).map D.str)), .v Z, keepV s4, s5] := by
      generalize (acc ++ memS ss Z).map D.str = Q at *
      generalize (memS ss Z).map D.str = Q2 at *
      generalize D.tup (ms.map D.str) = MM at *
      generalize D.tup (ss.map D.str) = SS at *
      simp [bodyDu, j1, it, e, backE, wipeE, ca]
    obtain ⟨t3, t4, ih⟩ := due_loop BS SG X K ss i2 bs (acc ++ memS ss Z) (.v Z) (keepV s4) s5 (fun d hd => h d (List.mem_cons_of_mem _ hd)) (by rw [List.length_append]; omega)
    refine ⟨t3, t4, ?_⟩
    unfold forL
    simp only [gNm_eq, List.set_cons_succ, List.set_cons_zero, e1]
    rw [ih, List.map_cons, List.flatten_cons, List.append_assoc]
def gU : D → Env → Option Env := (gTp 2 (gsCons (gNm 5) (gsCons (gNm 4) gsNil)))
def tU : TM := (tOfE (eOp2 notInD (rVar 4) (rOf (eSl (rVar 2) oNo (oSome (eVar 5))))))
/-- the first ones of each -/
theorem first_comp (BS SG s3 : Slot) (L : List Str) : ∀ (rest pre : List Str), pre ++ rest = L → ∀ (acc : List D) (s4 s5 : Slot), acc = (NVS.dd pre).map D.str →
    ∃ t4 t5, compL gU tU (eVar 4) [5, 4] (enumF pre.length (rest.map D.str)) acc [BS, SG, .v (.lst (L.map D.str)), s3, s4, s5] = .ok ((NVS.dd L).map D.str) [BS, SG, .v (.lst (L.map D.str)), s3, t4, t5]
  | [], pre, hp, acc, s4, s5, ha => by
    rw [List.append_nil] at hp
    subst hp
    exact ⟨s4, s5, by rw [ha]; rfl⟩
  | x :: rest, pre, hp, acc, s4, s5, ha => by
    have hp' : (pre ++ [x]) ++ rest = L := by rw [List.append_assoc]; exact hp
    have sl : slD (.lst (L.map D.str)) none (some (pre.length : Int)) = some (.lst (pre.map D.str)) := by
      show some (D.lst (cutL (L.map D.str) none (some (pre.length : Int)))) = _
      rw [cut_to, ← List.map_take, ← hp, List.take_left']
      rfl
    have ni := notIn_strsL x pre
    have gg : gU (.tup [.int (pre.length : Nat), .str x]) (wipeE [BS, SG, .v (.lst (L.map D.str)), s3, s4, s5] [5, 4]) = some [BS, SG, .v (.lst (L.map D.str)), s3, .v (.str x), .v (.int (pre.length : Int))] := rfl
    have tt : tU [BS, SG, .v (.lst (L.map D.str)), s3, .v (.str x), .v (.int (pre.length : Int))] = .ok (!decide (x ∈ pre)) [BS, SG, .v (.lst (L.map D.str)), s3, .v (.str x), .v (.int (pre.length : Int))] := by
      generalize L.map D.str = LL at *
      generalize (pre.length : Int) = pl at *
      generalize pre.map D.str = PP at *
      simp [tU, eSl, oNo, oSome, asI, sl, ni]
    have dm := dd_memK pre x
    have len : (pre ++ [x]).length = pre.length + 1 := by rw [List.length_append]; rfl
    by_cases hx : x ∈ pre
    · rw [decide_eq_true hx] at tt
      obtain ⟨t4, t5, ih⟩ := first_comp BS SG s3 L rest (pre ++ [x]) hp' acc (.v (.str x)) (.v (.int (pre.length : Int))) (by rw [ha, NVS.dd_snoc]; unfold NVS.stepS; rw [if_pos (dm.mpr hx)])
      refine ⟨t4, t5, ?_⟩
      rw [len] at ih
      rw [List.map_cons, enumF]
      unfold compL
      simp only [gg, tt, noexc_ok, bind_ok', Bool.not_true, Bool.false_eq_true, if_false]
      exact ih
    · rw [decide_eq_false hx] at tt
      obtain ⟨t4, t5, ih⟩ := first_comp BS SG s3 L rest (pre ++ [x]) hp' (acc ++ [.str x]) (.v (.str x)) (.v (.int (pre.length : Int))) (by rw [ha, NVS.dd_snoc]; unfold NVS.stepS; rw [if_neg fun z => hx (dm.mp z), List.map_append]; rfl)
      refine ⟨t4, t5, ?_⟩
      rw [len] at ih
      rw [List.map_cons, enumF]
      unfold compL
      have ev : eVar 4 [BS, SG, .v (.lst (L.map D.str)), s3, .v (.str x), .v (.int (pre.length : Int))] = .ok (.str x) [BS, SG, .v (.lst (L.map D.str)), s3, .v (.str x), .v (.int (pre.length : Int))] := rfl
      simp only [gg, tt, noexc_ok, bind_ok', Bool.not_false, if_true, ev]
      exact ih
end NV

set_option Elab.async false
set_option linter.all false
set_option maxRecDepth 100000
set_option maxHeartbeats 4000000
namespace NV
open PySem PySem.Spec PyProof.Rows L2
theorem sortedM_strs (ss : List Str) (h : ss.length < 64) : sortedM [.lst (ss.map D.str)] = some (.lst ((sortW ss).map D.str)) := by
  cases ss with
  | nil => rfl
  | cons x ss =>
    have s1 : sortedD [.lst ((x :: ss).map D.str)] = none := rfl
    have s2 : strsOf ((x :: ss).map D.str) = some (x :: ss) := by
      have : ∀ l : List Str, strsOf (l.map D.str) = some l := fun l => by
        induction l with
        | nil => rfl
        | cons y l ih =>
          show (strsOf (l.map D.str)).map _ = _
          rw [ih]
          rfl
      exact this _
    unfold sortedM
    rw [s1]
    simp only [s2, Option.bind_some, if_pos h]
theorem eqvAll_strs : ∀ ss : List Str, PyData.eqvAll (toPyL (ss.map D.str)) (toPyL (ss.map D.str)) = true
  | [] => by simp [toPyL, PyData.eqvAll]
  | x :: ss => by simp [toPyL, toPy, PyData.eqvAll, PyData.eqv, eqvAll_strs ss]
@[simp] theorem sRaise_eq (x : Str) (ρ : Env) : sRaise x ρ = .exc ⟨x, []⟩ ρ := rfl
@[simp] theorem sTry_eq (cs : List Str) (i : Nat) (mb ms : SM) (ρ : Env) : sTry cs i mb ms ρ = match mb ρ with
  | .exc x ρ1 => (match x.fs with
    | [] => if cs.contains x.cls then clrO i (ms (ρ1.set i (.v (.exn x.cls [])))) else .bad
    | _ => .bad)
  | o => o := rfl
theorem call_exc {fl : List Bool} {F : List D → FRes} {rs : List RV} {ρ : Env} {ds : List D} {x : Str} {fr : Bool} (h1 : getAll ρ rs = some ds) (h2 : ownIdx fl rs = some []) (hF : F ds = .exc ⟨x, []⟩ []) : callG fl fr F rs ρ = .exc ⟨x, []⟩ ρ := by
  unfold callG
  rw [h1, h2]
  simp only [hF]
  have e : lentOk (lent fl rs) (.tup []) [] = true := by
    unfold lentOk
    cases (lent fl rs).isEmpty <;> rfl
  simp [e, upO]
/-! ### no names -/

theorem is_bands_call (b : D) (h : good b = true) (ρ : Env) : callG [false] false F_is_bands [.val b] ρ = .ok (.bl (bandsB b)) ρ := call_val rfl rfl (is_bands_eq b (good_okBands h)) (.inl rfl)
theorem law_bands_call (b : D) (h : good b = true) (ρ : Env) : callG [false] false F__law_is_bands [.val b] ρ = .ok (.bl (bandsB b)) ρ := call_val rfl rfl (law_bands_eq b (good_okBands h)) (.inl rfl)
theorem is_song_call (b : D) (h : good b = true) (ρ : Env) : callG [false] false F_is_song [.val b] ρ = .ok (.bl (songB b)) ρ := call_val rfl rfl (is_song_eq b (good_okSong h)) (.inl rfl)
theorem law_song_call (b : D) (h : good b = true) (ρ : Env) : callG [false] false F__law_is_song [.val b] ρ = .ok (.bl (songB b)) ρ := call_val rfl rfl (law_song_eq b (good_okSong h)) (.inl rfl)
theorem bands_shape {b : D} (h : bandsB b = true) : ∃ bs : List D, b = .tup bs ∧ bs.length ≤ 6 ∧ ∀ d ∈ bs, bandB d = true := by
  unfold bandsB at h
  split at h
  · rename_i xs
    simp only [Bool.and_eq_true, decide_eq_true_eq, List.all_eq_true] at h
    exact ⟨xs, rfl, by omega, h.1.2⟩
  · cases h
/-- due where both are what they are -/
theorem due_eq {bs : List D} {ss : List Str} {x : D} {i : Int} {k : D} (hgb : good (.tup bs) = true) (hgs : good (.tup [x, .int i, .tup (ss.map D.str), k]) = true) (hB : bandsB (.tup bs) = true) (hS : songB (.tup [x, .int i, .tup (ss.map D.str), k]) = true)
    (hs : ss.length ≤ 4) (hb : ∀ d ∈ bs, bandB d = true) (hl : bs.length ≤ 6) : F__law_due [.tup bs, .tup [x, .int i, .tup (ss.map D.str), k]] = .ok (.tup ((voiceS ss bs).map D.str)) [] := by
  have c1 := law_bands_call (.tup bs) hgb
  have c2 := law_song_call _ hgs
  rw [hB] at c1
  rw [hS] at c2
  obtain ⟨SG, hSG⟩ : ∃ SG, SG = D.tup [x, .int i, .tup (ss.map D.str), k] := ⟨_, rfl⟩
  have i2 : ixD SG (.int 2) = some (.tup (ss.map D.str)) := by rw [hSG]; rfl
  rw [← hSG] at c2 ⊢
  have hh : (heard ss bs).length ≤ 40 := heard_len (by omega) hb hl
  obtain ⟨t3, t4, e⟩ := due_loop (.tup bs) SG .non .non ss i2 bs ss .no .no .no hb (by omega)
  have e' : forL (gNm 3) bodyDu bs [.v (.tup bs), .v SG, .v (.lst (ss.map D.str)), .no, .no, .no] = .nx [.v (.tup bs), .v SG, .v (.lst ((heard ss bs).map D.str)), t3, t4, .no] := e
  obtain ⟨u4, u5, f⟩ := first_comp (.v (.tup bs)) (.v SG) t3 (heard ss bs) (heard ss bs) [] (List.nil_append _) [] .no .no rfl
  have li : listD [.tup (ss.map D.str)] = some (.lst (ss.map D.str)) := rfl
  have it : itemsD (.tup bs) = some bs := rfl
  have tu : ∀ l : List D, tuple3D [.lst l] = some (.tup l) := fun _ => rfl
  have en : enumD (.lst ((heard ss bs).map D.str)) = some (enumF 0 ((heard ss bs).map D.str)) := rfl
  have dl := NVS.dd_len (heard ss bs)
  have so := sortedM_strs (NVS.dd (heard ss bs)) (by omega)
  have f' : ∀ s4 s5 : Slot, compL gU tU (eVar 4) [5, 4] (enumF 0 ((heard ss bs).map D.str)) [] [.v (.tup bs), .v SG, .v (.lst ((heard ss bs).map D.str)), t3, s4, s5] = .ok ((NVS.dd (heard ss bs)).map D.str) [.v (.tup bs), .v SG, .v (.lst ((heard ss bs).map D.str)), t3, (if False then s4 else u4), u5] → True := fun _ _ _ => trivial
  clear f'
  obtain ⟨v4, v5, f2⟩ := first_comp (.v (.tup bs)) (.v SG) t3 (heard ss bs) (heard ss bs) [] (List.nil_append _) [] t4 .no rfl
  have f3 : compL gU tU (eVar 4) [5, 4] (enumF 0 ((heard ss bs).map D.str)) [] [.v (.tup bs), .v SG, .v (.lst ((heard ss bs).map D.str)), t3, t4, .no] = .ok ((NVS.dd (heard ss bs)).map D.str) [.v (.tup bs), .v SG, .v (.lst ((heard ss bs).map D.str)), t3, v4, v5] := f2
  unfold bodyDu at e'
  unfold gU tU at f3
  unfold voiceS
  generalize enumF 0 ((heard ss bs).map D.str) = EN at *
  generalize (sortW (NVS.dd (heard ss bs))).map D.str = V at *
  generalize (NVS.dd (heard ss bs)).map D.str = V2 at *
  generalize (heard ss bs).map D.str = hd at *
  generalize D.tup bs = BS at *
  generalize D.tup (ss.map D.str) = SS at *
  generalize ss.map D.str = S2 at *
  clear e f f2 hSG
  simp [F__law_due, m__law_due, iEnumM, c1, c2, i2, li, it, e', en, f3, so, tu, backE, wipeE]
theorem voices_good {bs : List D} {ss : List Str} {x : D} {i : Int} {k : D} (hgb : good (.tup bs) = true) (hgs : good (.tup [x, .int i, .tup (ss.map D.str), k]) = true) (hB : bandsB (.tup bs) = true) (hS : songB (.tup [x, .int i, .tup (ss.map D.str), k]) = true)
    (hs : ss.length ≤ 4) (hb : ∀ d ∈ bs, bandB d = true) (hl : bs.length ≤ 6) : F_voices [.tup bs, .tup [x, .int i, .tup (ss.map D.str), k]] = .ok (.tup ((voiceS ss bs).map D.str)) [] := by
  have c1 := is_bands_call (.tup bs) hgb
  have c2 := is_song_call _ hgs
  rw [hB] at c1
  rw [hS] at c2
  obtain ⟨SG, hSG⟩ : ∃ SG, SG = D.tup [x, .int i, .tup (ss.map D.str), k] := ⟨_, rfl⟩
  have i2 : ixD SG (.int 2) = some (.tup (ss.map D.str)) := by rw [hSG]; rfl
  rw [← hSG] at c2 ⊢
  have c3 := fun ρ => call_val (fl := [false, false]) (F := F_voices_of) (rs := [.val (.tup bs), .val (.tup (ss.map D.str))]) (ρ := ρ) rfl rfl (voices_of_eq hs hb hl) (.inl rfl)
  generalize (voiceS ss bs).map D.str = V at *
  generalize D.tup bs = BS at *
  generalize D.tup (ss.map D.str) = SS at *
  simp [F_voices, m_voices, c1, c2, c3, i2]
theorem ne_self {T : D} (ok : okD 60 T = true) (e : eqD T T = true) : neO T T = some (.bl false) := by
  unfold neO
  split
  · rfl
  · rw [if_pos ⟨ok, ok⟩, e]
    rfl
theorem ne_voices (ss : List Str) : neO (.tup (ss.map D.str)) (.tup (ss.map D.str)) = some (.bl false) := by
  refine ne_self (by simp [okD, okL_strs 59 ss]) ?_
  unfold eqD
  simp [toPy, PyData.eqv, eqvAll_strs ss]
theorem ne_ref (s : Str) : neO (.tup [.str "refused", .str s, .int 0]) (.tup [.str "refused", .str s, .int 0]) = some (.bl false) := by
  refine ne_self (by simp [okD, okL]) ?_
  unfold eqD
  simp [toPy, toPyL, PyData.eqv, PyData.eqvAll]
theorem sort_bands : F__law_sort [.exn "NoBands" []] = .ok (.str "bands") [] := by kernel_rfl
theorem sort_song : F__law_sort [.exn "NoSong" []] = .ok (.str "song") [] := by kernel_rfl
theorem right_told {b s : D} {V : D} (h1 : F__law_due [b, s] = .ok V []) (h2 : F_voices [b, s] = .ok V []) (h3 : isT .tuple V = some (.bl true)) (h4 : neO V V = some (.bl false)) : F__law_right [b, s] = .ok (.bl true) [] := by
  have c1 := fun ρ => call_val (fl := [false, false]) (F := F__law_due) (rs := [.val b, .val s]) (ρ := ρ) rfl rfl h1 (.inl rfl)
  have c2 := fun ρ => call_val (fl := [false, false]) (F := F_voices) (rs := [.val b, .val s]) (ρ := ρ) rfl rfl h2 (.inl rfl)
  have r2 : rng1 (.int 2) = some [.int 0, .int 1] := by kernel_rfl
  simp [F__law_right, m__law_right, r2, forL, c1, c2, h3, h4]
theorem right_ref {b s : D} {w c : Str} (h1 : F__law_due [b, s] = .ok (.tup [.str "refused", .str w, .int 0]) []) (h2 : F_voices [b, s] = .exc ⟨c, []⟩ []) (hs : F__law_sort [.exn c []] = .ok (.str w) []) (cs : c = "NoBands" ∨ c = "NoSong") : F__law_right [b, s] = .ok (.bl true) [] := by
  have c1 := fun ρ => call_val (fl := [false, false]) (F := F__law_due) (rs := [.val b, .val s]) (ρ := ρ) rfl rfl h1 (.inl rfl)
  have c2 := fun ρ => call_exc (fl := [false, false]) (fr := false) (F := F_voices) (rs := [.val b, .val s]) (ρ := ρ) rfl rfl h2
  have c3 := fun ρ => call_val (fl := [false]) (F := F__law_sort) (rs := [.val (.exn c [])]) (ρ := ρ) rfl rfl hs (.inl rfl)
  have r2 : rng1 (.int 2) = some [.int 0, .int 1] := by kernel_rfl
  have h4 := ne_ref w
  have h3 : isT .tuple (.tup [.str "refused", .str w, .int 0]) = some (.bl true) := rfl
  simp [F__law_right, m__law_right, r2, forL, c1, c2, c3, cs, clrO, h3, h4]
theorem right_ok3 {b s : D} (hb : good b = true) (hs : good s = true) : F__law_right [b, s] = .ok (.bl true) [] := by
  have b1 := is_bands_call b hb
  have b2 := law_bands_call b hb
  have s1 := is_song_call s hs
  have s2 := law_song_call s hs
  cases hB : bandsB b with
  | false =>
    rw [hB] at b1 b2
    exact right_ref (w := "bands") (c := "NoBands") (by simp [F__law_due, m__law_due, b2]) (by simp [F_voices, m_voices, b1]) sort_bands (.inl rfl)
  | true =>
    rw [hB] at b1 b2
    cases hS : songB s with
    | false =>
      rw [hS] at s1 s2
      exact right_ref (w := "song") (c := "NoSong") (by simp [F__law_due, m__law_due, b2, s2]) (by simp [F_voices, m_voices, b1, s1]) sort_song (.inr rfl)
    | true =>
      obtain ⟨bs, rfl, hl, hbs⟩ := bands_shape hB
      obtain ⟨x, i, ss, k, rfl, _, h4⟩ := song_shape hS
      exact right_told (due_eq hb hs hB hS (by omega) hbs hl) (voices_good hb hs hB hS (by omega) hbs hl) rfl (ne_voices _)
theorem right_call3 {b s : D} (hb : good b = true) (hs : good s = true) (ρ : Env) : callG [false, false] false F__law_right [.val b, .val s] ρ = .ok (.bl true) ρ := call_val rfl rfl (right_ok3 hb hs) (.inl rfl)
end NV

set_option Elab.async false
set_option linter.all false
set_option maxRecDepth 100000
set_option maxHeartbeats 4000000
namespace NV
open PySem PySem.Spec PyProof.Rows L2
def mN1 : EM := (eOp2 addD (rOf (eOp2 ixD (rVar 1) (rOf (eOp2 addD (rVar 3) (rOf (eOp2 modD (rVar 4) (rOf (eC (.int 6))))))))) (rOf (eOp2 ixD (rVar 1) (rOf (eOp2 fdivD (rVar 4) (rOf (eC (.int 6))))))))
def mN2 : EM := (eOp2 mul4 (rOf (eOp2 ixD (rVar 1) (rVar 3))) (rOf (eOp2 addD (rVar 4) (rOf (eC (.int 1))))))
def mSo : EM := (eMut 5 isLst popD (lCons (eCall [true, false] false F__law_pick (aCons (rVar 0) (aCons (rOf (eCallB lenD (aCons (rVar 5) aNil))) aNil))) lNil))

def lowD (d : D) : Prop := ∃ x : Str, d = .str x ∧ lowS x
theorem lowD_leaf {d : D} (h : lowD d) : leaf d := by
  obtain ⟨x, rfl, hx⟩ := h
  exact .inr (.inr ⟨x, rfl, hx⟩)
theorem LS_has {c : Nat} (h1 : 97 ≤ c) (h2 : c ≤ 122) : (⟨#[c]⟩ : Str) ∈ LS := by
  have al : (List.range 26).all (fun k => decide ((⟨#[97 + k]⟩ : Str) ∈ LS)) = true := by decide +kernel
  have := List.all_eq_true.mp al (c - 97) (List.mem_range.mpr (by omega))
  rw [show 97 + (c - 97) = c by omega] at this
  exact of_decide_eq_true this
theorem mul_low {c : Nat} (h1 : 97 ≤ c) (h2 : c ≤ 122) (i : Nat) (hi : i < 8) : ∃ x, mul4 (.str ⟨#[c]⟩) (.int ((i : Int) + 1)) = some (.str x) ∧ lowS x := by
  have al : LS.all (fun x => (List.range 8).all fun k => decide (x.length ≤ 1000) && (strGb (Txt.mul x ((k : Int) + 1)) && (decide ((Txt.mul x ((k : Int) + 1)).length ≤ 20) && (Txt.mul x ((k : Int) + 1)).cps.toList.all fun c => decide (97 ≤ c) && decide (c ≤ 122)))) = true := by decide +kernel
  have := List.all_eq_true.mp (List.all_eq_true.mp al _ (LS_has h1 h2)) i (List.mem_range.mpr hi)
  rw [Bool.and_eq_true, Bool.and_eq_true] at this
  refine ⟨Txt.mul ⟨#[c]⟩ ((i : Int) + 1), ?_, lowS_by this.2.2⟩
  show (if _ then _ else none) = _
  rw [if_pos ⟨by omega, by omega, of_decide_eq_true this.1, this.2.1⟩]
theorem two_low {a b : Nat} (h1 : 97 ≤ a ∧ a ≤ 122) (h2 : 97 ≤ b ∧ b ≤ 122) : ∃ x, addD (.str ⟨#[a]⟩) (.str ⟨#[b]⟩) = some (.str x) ∧ lowS x := by
  refine ⟨(⟨#[a]⟩ : Str) ++ (⟨#[b]⟩ : Str), add_str (by show 1 + 1 ≤ _; decide), ?_, fun c hc => ?_⟩
  · show ((#[a] : Array Nat) ++ #[b]).size ≤ 20
    simp
  · have hc2 : c ∈ ((#[a] : Array Nat) ++ #[b]).toList := hc
    simp at hc2
    rcases hc2 with rfl | rfl
    · exact h1
    · exact h2
theorem names_ok (s : Pu) : ∃ (s' : Pu) (xs : List D), F__law_names [s.d] = .ok (.tup xs) [s'.d] ∧ (∀ d ∈ xs, lowD d) ∧ 6 ≤ xs.length ∧ xs.length ≤ 30 := by
  obtain ⟨s1, w, e1, w0, w1⟩ := pick_call s [.v (.str "abcdefghijklmnopqrstuvwxyz"), .no, .no, .no] 8 (by decide) (by decide)
  obtain ⟨s2, h, e2, h0, h1⟩ := pick_call s1 [.v (.str "abcdefghijklmnopqrstuvwxyz"), .no, .no, .no] 20 (by decide) (by decide)
  have gt : ∀ (a b : D) (ρ : Env), gTp 2 (gsCons (gNm 2) (gsCons (gNm 3) gsNil)) (.tup [a, b]) ρ = some ((ρ.set 2 (.v a)).set 3 (.v b)) := fun a b ρ => by simp [gTp, gsCons, gsNil]
  have tu : ∀ l : List D, tuple3D [.lst l] = some (.tup l) := fun _ => rfl
  by_cases hw : w < 2
  · have rg : rng1 (.int 30) = some ((List.range 30).map fun i => D.int ((i : Nat) : Int)) := rng_nat (n := 30) (by omega)
    obtain ⟨_, y, out, e3, hlen, hP⟩ := comp_each (S := Unit) (mt := tYesM) (me := mN1) (i := 4) (fun _ x => [.p s2.d, .v (.str "abcdefghijklmnopqrstuvwxyz"), .v (.int w), .v (.int h), x]) (fun _ _ _ => rfl) lowD
      ((List.range 30).map fun i => D.int ((i : Nat) : Int)) (fun s d _ => by simp) (fun s d hd => by
        obtain ⟨i, hi, rfl⟩ := List.mem_map.mp hd
        have hi := List.mem_range.mp hi
        have m6 : modD (.int (i : Int)) (.int 6) = some (.int ((i : Int) % 6)) := modD_int (by decide)
        have f6 : fdivD (.int (i : Int)) (.int 6) = some (.int ((i : Int) / 6)) := fdivD_int (by decide) (by decide)
        obtain ⟨z1, ez1, a, a0, a1, rfl⟩ := letter_at (j := h + (i : Int) % 6) (by omega) (by omega)
        obtain ⟨z2, ez2, b, b0, b1, rfl⟩ := letter_at (j := (i : Int) / 6) (by omega) (by omega)
        obtain ⟨x, ex, hx⟩ := two_low ⟨a0, a1⟩ ⟨b0, b1⟩
        exact ⟨(), .str x, by simp [mN1, m6, f6, ez1, ez2, ex], x, rfl, hx⟩) [] () .no
    rw [List.length_map, List.length_range] at hlen
    refine ⟨s2, out, ?_, hP, by omega, by omega⟩
    unfold mN1 at e3
    generalize ((List.range 30).map fun i => D.int ((i : Nat) : Int)) = R at rg e3
    simp only [F__law_names, m__law_names, runF_eq, slots_p, slots_nil]
    simp [e1, e2, sAsg, gt, hw, rg, e3, backE, wipeE, tu]
  · by_cases hw2 : w = 2
    · subst hw2
      have rg : rng1 (.int 8) = some ((List.range 8).map fun i => D.int ((i : Nat) : Int)) := rng_nat (n := 8) (by omega)
      obtain ⟨z1, ez1, c, c0, c1, rfl⟩ := letter_at (j := h) (by omega) (by omega)
      obtain ⟨_, y, out, e3, hlen, hP⟩ := comp_each (S := Unit) (mt := tYesM) (me := mN2) (i := 4) (fun _ x => [.p s2.d, .v (.str "abcdefghijklmnopqrstuvwxyz"), .v (.int 2), .v (.int h), x]) (fun _ _ _ => rfl) lowD
        ((List.range 8).map fun i => D.int ((i : Nat) : Int)) (fun s d _ => by simp) (fun s d hd => by
          obtain ⟨i, hi, rfl⟩ := List.mem_map.mp hd
          have hi := List.mem_range.mp hi
          obtain ⟨x, ex, hx⟩ := mul_low c0 c1 i hi
          exact ⟨(), .str x, by simp [mN2, ez1, ex], x, rfl, hx⟩) [] () .no
      rw [List.length_map, List.length_range] at hlen
      refine ⟨s2, out, ?_, hP, by omega, by omega⟩
      unfold mN2 at e3
      generalize ((List.range 8).map fun i => D.int ((i : Nat) : Int)) = R at rg e3
      simp only [F__law_names, m__law_names, runF_eq, slots_p, slots_nil]
      simp [e1, e2, sAsg, gt, hw, rg, e3, backE, wipeE, tu]
    · obtain ⟨s3, xs, e3, hx, hl⟩ := unlike_call s2 [.v (.str "abcdefghijklmnopqrstuvwxyz"), .v (.int w), .v (.int h), .no] 6 (by decide) (by decide)
      refine ⟨s3, xs.map D.str, ?_, fun d hd => ?_, by rw [List.length_map]; omega, by rw [List.length_map]; omega⟩
      · simp only [F__law_names, m__law_names, runF_eq, slots_p, slots_nil]
        simp [e1, e2, sAsg, gt, hw, hw2, e3]
      · obtain ⟨x, h, rfl⟩ := List.mem_map.mp hd
        exact ⟨x, rfl, hx x h⟩
/-- a comprehension over numbers, with a state -/
theorem comp_rngI {mt : TM} {me : EM} {i : Nat} (I : Nat → Env → Prop) (P : D → Prop) (n : Nat)
    (hb : ∀ j, j < n → ∀ ρ, I j ρ → ∃ ρ2 z, mt ((wipeE ρ [i]).set i (.v (.int (j : Int)))) = .ok true ((wipeE ρ [i]).set i (.v (.int (j : Int)))) ∧ me ((wipeE ρ [i]).set i (.v (.int (j : Int)))) = .ok z ρ2 ∧ I (j + 1) ρ2 ∧ P z) :
    ∀ (m k : Nat), k + m = n → ∀ (acc : List D) ρ, I k ρ → ∃ ρ' out, compL (gNm i) mt me [i] ((List.range' k m).map fun j => D.int ((j : Nat) : Int)) acc ρ = .ok (acc ++ out) ρ' ∧ I n ρ' ∧ out.length = m ∧ ∀ z ∈ out, P z
  | 0, k, hk, acc, ρ, h => ⟨ρ, [], by simp [compL], by rw [← hk]; exact h, rfl, fun _ z => by cases z⟩
  | m + 1, k, hk, acc, ρ, h => by
    obtain ⟨ρ2, z, h1, h2, h3, hz⟩ := hb k (by omega) ρ h
    obtain ⟨ρ', out, e, hi, hl, hP⟩ := comp_rngI I P n hb m (k + 1) (by omega) (acc ++ [z]) ρ2 h3
    refine ⟨ρ', z :: out, ?_, hi, by rw [List.length_cons, hl], fun w hw => (List.mem_cons.mp hw).elim (fun q => q ▸ hz) (hP w)⟩
    rw [List.range'_succ, List.map_cons]
    unfold compL
    simp only [gNm_eq, h1, noexc_ok, bind_ok', if_true, h2]
    rw [e]
    simp
theorem some_ok (s : Pu) {xs : List D} (hx : ∀ d ∈ xs, lowD d) (h6 : 6 ≤ xs.length) (h30 : xs.length ≤ 30) (least most : Int) (h0 : 0 ≤ least) (h1 : least ≤ most) (h2 : most ≤ 6) :
    ∃ (s' : Pu) (ys : List D), F__law_some [s.d, .tup xs, .int least, .int most] = .ok (.tup ys) [s'.d] ∧ (∀ d ∈ ys, lowD d) ∧ ys.length ≤ 6 := by
  obtain ⟨s1, w, e1, w0, w1⟩ := pick_call s [.v (.tup xs), .v (.int least), .v (.int most), .no, .no, .no] (most - least + 1) (by omega) (by omega)
  have rg := rng_nat (n := (least + w).toNat) (by omega)
  rw [show (((least + w).toNat : Nat) : Int) = least + w by omega] at rg
  rw [List.range_eq_range'] at rg
  have tu : ∀ l : List D, tuple3D [.lst l] = some (.tup l) := fun _ => rfl
  have li : listD [.tup xs] = some (.lst xs) := rfl
  obtain ⟨ρ', out, e3, ⟨s3, L, x, rfl, _, _⟩, hlen, hP⟩ := comp_rngI (mt := tYesM) (me := mSo) (i := 6) (fun j ρ => ∃ (s : Pu) (L : List D) (x : Slot), ρ = [.p s.d, .v (.tup xs), .v (.int least), .v (.int most), .v (.int (least + w)), .o (.lst L), x] ∧ L.length + j = xs.length ∧ ∀ d ∈ L, lowD d) lowD (least + w).toNat
    (fun j hj ρ ⟨s, L, x, hr, hL, hl⟩ => by
      subst hr
      obtain ⟨s', r, e, r0, r1⟩ := pick_call s [.v (.tup xs), .v (.int least), .v (.int most), .v (.int (least + w)), .o (.lst L), .v (.int (j : Int))] (L.length : Int) (by omega) (by omega)
      have hr : r.toNat < L.length := by omega
      have ln : lenD [.lst L] = some (.int (L.length : Int)) := rfl
      have pp : popD (.lst L) [.int r] = some (.lst (L.eraseIdx r.toNat), L[r.toNat]) := by
        show (if 0 ≤ r ∧ r < 2 ^ 63 then (L[r.toNat]?).map fun z => (D.lst (L.eraseIdx r.toNat), z) else none) = _
        rw [if_pos ⟨r0, by omega⟩, List.getElem?_eq_getElem hr]
        rfl
      obtain ⟨z, hz⟩ : ∃ z, z = L[r.toNat] := ⟨_, rfl⟩
      rw [← hz] at pp
      refine ⟨[.p s'.d, .v (.tup xs), .v (.int least), .v (.int most), .v (.int (least + w)), .o (.lst (L.eraseIdx r.toNat)), .v (.int (j : Int))], z, rfl, ?_, ⟨s', L.eraseIdx r.toNat, _, rfl, by rw [List.length_eraseIdx_of_lt hr]; omega, fun d hd => hl d (List.mem_of_mem_eraseIdx hd)⟩, hz ▸ hl _ (List.getElem_mem hr)⟩
      simp only [mSo]
      simp [eMut, isLst, ln, e, pp, wipeE, ownSet]) (least + w).toNat 0 (by omega) [] [.p s1.d, .v (.tup xs), .v (.int least), .v (.int most), .v (.int (least + w)), .o (.lst xs), .no] ⟨s1, xs, .no, rfl, by omega, hx⟩
  refine ⟨s3, out, ?_, hP, by omega⟩
  unfold mSo at e3
  generalize ((List.range' 0 (least + w).toNat).map fun j => D.int ((j : Nat) : Int)) = R at rg e3
  simp only [F__law_some, m__law_some, runF_eq, slots_p, slots_v, slots_nil]
  simp [e1, li, rg, e3, backE, wipeE, tu]
end NV

set_option Elab.async false
set_option linter.all false
set_option maxRecDepth 100000
set_option maxHeartbeats 4000000
namespace NV
open PySem PySem.Spec PyProof.Rows L2
def bodyL : SM := (sSeq (sSetO 2 (eCall [false] true F__law_purse (aCons (rOf (eCall [false, false] false F__law_cell (aCons (rVar 0) (aCons (rVar 1) aNil)))) aNil))) (sSeq (sSet 3 (eCall [true] false F__law_names (aCons (rVar 2) aNil))) (sSeq (sSet 4 (eCall [true, false, false, false] false F__law_some (aCons (rVar 2) (aCons (rVar 3) (aCons (rOf (eC (.int 0))) (aCons (rOf (eC (.int 6))) aNil)))))) (sSeq (sSet 5 (eCallB tuple3D (aCons (rOf (eComp (iVal (eVar 4)) (gNm 13) tYesM (eTup (lCons (eVar 13) (lCons (eCall [true, false, false, false] false F__law_some (aCons (rVar 2) (aCons (rVar 3) (aCons (rOf (eC (.int 1))) (aCons (rOf (eC (.int 6))) aNil))))) lNil))) [13])) aNil))) (sSeq (sSet 6 (eTup (lCons (eCall [true] false F__law_any_name (aCons (rVar 2) aNil)) (lCons (eOp2 addD (rOf (eC (.int 60))) (rOf (eCall [true, false] false F__law_pick (aCons (rVar 2) (aCons (rOf (eC (.int 841))) aNil))))) (lCons (eCall [true, false, false, false] false F__law_some (aCons (rVar 2) (aCons (rVar 3) (aCons (rOf (eC (.int 1))) (aCons (rOf (eC (.int 4))) aNil))))) (lCons (eCall [true] false F__law_kind (aCons (rVar 2) aNil)) lNil)))))) (sSeq (sSet 7 (eOp2 addD (rOf (eOp2 addD (rOf (eSl (rVar 6) oNo (oSome (eC (.int 2))))) (rOf (eTup (lCons (eRev (rOf (eOp2 ixD (rVar 6) (rOf (eC (.int 2)))))) lNil))))) (rOf (eSl (rVar 6) (oSome (eC (.int 3))) oNo)))) (sSeq (sIf (tOrM (tNotM (tOfE (eCall [false, false] false F__law_right (aCons (rVar 5) (aCons (rVar 6) aNil))))) (tOrM (tNotM (tOfE (eCall [false, false] false F__law_right (aCons (rOf (eRev (rVar 5))) (aCons (rVar 6) aNil))))) (tNotM (tOfE (eCall [false, false] false F__law_right (aCons (rVar 5) (aCons (rVar 7) aNil))))))) (sRet (eC (.bl false))) sNil) (sFor (iRange1 (eC (.int 3))) (gNm 8) (sSeq (sPar 9 10 (lCons (eCall [true, false] false F__law_turned (aCons (rVar 2) (aCons (rVar 5) aNil))) (lCons (eCall [true, false] false F__law_turned (aCons (rVar 2) (aCons (rVar 6) aNil))) lNil))) (sFor (iVal (eLst (lCons (eTup (lCons (eVar 9) (lCons (eVar 6) lNil))) (lCons (eTup (lCons (eVar 5) (lCons (eVar 10) lNil))) (lCons (eTup (lCons (eVar 9) (lCons (eVar 10) lNil))) lNil))))) (gTp 2 (gsCons (gNm 11) (gsCons (gNm 12) gsNil))) (sIf (tNotM (tOfE (eCall [false, false] false F__law_right (aCons (rVar 11) (aCons (rVar 12) aNil))))) (sRet (eC (.bl false))) sNil)))))))))))
def bodyT : SM := (sSeq (sPar 9 10 (lCons (eCall [true, false] false F__law_turned (aCons (rVar 2) (aCons (rVar 5) aNil))) (lCons (eCall [true, false] false F__law_turned (aCons (rVar 2) (aCons (rVar 6) aNil))) lNil))) (sFor (iVal (eLst (lCons (eTup (lCons (eVar 9) (lCons (eVar 6) lNil))) (lCons (eTup (lCons (eVar 5) (lCons (eVar 10) lNil))) (lCons (eTup (lCons (eVar 9) (lCons (eVar 10) lNil))) lNil))))) (gTp 2 (gsCons (gNm 11) (gsCons (gNm 12) gsNil))) (sIf (tNotM (tOfE (eCall [false, false] false F__law_right (aCons (rVar 11) (aCons (rVar 12) aNil))))) (sRet (eC (.bl false))) sNil)))
def bodyI : SM := (sIf (tNotM (tOfE (eCall [false, false] false F__law_right (aCons (rVar 11) (aCons (rVar 12) aNil))))) (sRet (eC (.bl false))) sNil)
def gI : D → Env → Option Env := (gTp 2 (gsCons (gNm 11) (gsCons (gNm 12) gsNil)))
def mBd : EM := (eTup (lCons (eVar 13) (lCons (eCall [true, false, false, false] false F__law_some (aCons (rVar 2) (aCons (rVar 3) (aCons (rOf (eC (.int 1))) (aCons (rOf (eC (.int 6))) aNil))))) lNil)))

theorem turned_call2 (s : Pu) {d : D} (h : tIn 3 d) (ρ : Env) (pre : Env) : True := trivial
/-- three times turned -/
theorem body_t {a k nm ow t7 : Slot} {bs s : D} (hb : tIn 3 bs) (hs : tIn 3 s) (p : Pu) (d : D) (s9 s10 s11 s12 s13 : Slot) : ∃ (p' : Pu) (t9 t10 t11 t12 : Slot),
    bodyT [a, k, .o p.d, nm, ow, .v bs, .v s, t7, .v d, s9, s10, s11, s12, s13] = .nx [a, k, .o p'.d, nm, ow, .v bs, .v s, t7, .v d, t9, t10, t11, t12, s13] := by
  obtain ⟨p1, z, e1, gz⟩ := turned_ok 3 8 (by decide) p bs hb
  obtain ⟨p2, y, e2, gy⟩ := turned_ok 3 8 (by decide) p1 s hs
  have e1' : F__law_turned [p.d, bs] = .ok z [p1.d] := e1
  have e2' : F__law_turned [p1.d, s] = .ok y [p2.d] := e2
  have c1 : callG [true, false] false F__law_turned [.own 2, .val bs] [a, k, .o p.d, nm, ow, .v bs, .v s, t7, .v d, s9, s10, s11, s12, s13] = .ok z [a, k, .o p1.d, nm, ow, .v bs, .v s, t7, .v d, s9, s10, s11, s12, s13] := call_own (i := 2) rfl rfl e1' rfl
  have c2 : callG [true, false] false F__law_turned [.own 2, .val s] [a, k, .o p1.d, nm, ow, .v bs, .v s, t7, .v d, s9, s10, s11, s12, s13] = .ok y [a, k, .o p2.d, nm, ow, .v bs, .v s, t7, .v d, s9, s10, s11, s12, s13] := call_own (i := 2) rfl rfl e2' rfl
  have gb := tIn_good 3 hb
  have gs := tIn_good 3 hs
  have r1 := right_call3 gz gs
  have r2 := right_call3 gb gy
  have r3 := right_call3 gz gy
  refine ⟨p2, .v z, .v y, .v z, .v y, ?_⟩
  simp [bodyT, sPar, c1, c2, forL, gTp, gsCons, gsNil, r1, r2, r3]
theorem body_ok (ns : List Int) (k : Int) (h0 : 0 ≤ k) (h1 : k < 1000) (s2 s3 s4 s5 s6 s7 s8 s9 s10 s11 s12 s13 : Slot) : ∃ t2 t3 t4 t5 t6 t7 t8 t9 t10 t11 t12 t13 : Slot,
    bodyL [.v (.scr ns), .v (.int k), s2, s3, s4, s5, s6, s7, s8, s9, s10, s11, s12, s13] = .nx [.v (.scr ns), .v (.int k), t2, t3, t4, t5, t6, t7, t8, t9, t10, t11, t12, t13] := by
  obtain ⟨v, e1⟩ := cell_ok ns k h0 h1
  have c1 := fun ρ => call_val (fl := [false, false]) (F := F__law_cell) (rs := [.val (.scr ns), .val (.int k)]) (ρ := ρ) rfl rfl e1 (.inl rfl)
  obtain ⟨p0, e2⟩ := purse_ok v
  have c2 := fun ρ => call_valF (fl := [false]) (F := F__law_purse) (rs := [.val (.int v)]) (ρ := ρ) rfl rfl e2 (.inl rfl)
  obtain ⟨p1, xs, e3, hx, x6, x30⟩ := names_ok p0
  have c3 : callG [true] false F__law_names [.own 2] [.v (.scr ns), .v (.int k), .o p0.d, s3, s4, s5, s6, s7, s8, s9, s10, s11, s12, s13] = .ok (.tup xs) [.v (.scr ns), .v (.int k), .o p1.d, s3, s4, s5, s6, s7, s8, s9, s10, s11, s12, s13] := call_own (i := 2) rfl rfl e3 rfl
  obtain ⟨p2, ow, e4, how, low⟩ := some_ok p1 hx x6 x30 0 6 (by decide) (by decide) (by decide)
  have c4 : callG [true, false, false, false] false F__law_some [.own 2, .val (.tup xs), .val (.int 0), .val (.int 6)] [.v (.scr ns), .v (.int k), .o p1.d, .v (.tup xs), s4, s5, s6, s7, s8, s9, s10, s11, s12, s13] = .ok (.tup ow) [.v (.scr ns), .v (.int k), .o p2.d, .v (.tup xs), s4, s5, s6, s7, s8, s9, s10, s11, s12, s13] := call_own (i := 2) rfl rfl e4 rfl
  have it : itemsD (.tup ow) = some ow := rfl
  obtain ⟨p3, y13, bs, e5, lbs, hbs⟩ := comp_each (S := Pu) (mt := tYesM) (me := mBd) (i := 13) (fun p x => [.v (.scr ns), .v (.int k), .o p.d, .v (.tup xs), .v (.tup ow), s5, s6, s7, s8, s9, s10, s11, s12, x]) (fun _ _ _ => rfl) (tIn 2) ow (fun _ _ _ => by simp) (fun p d hd => by
    obtain ⟨p', ms, e, hm, lm⟩ := some_ok p hx x6 x30 1 6 (by decide) (by decide) (by decide)
    have c : callG [true, false, false, false] false F__law_some [.own 2, .val (.tup xs), .val (.int 1), .val (.int 6)] [.v (.scr ns), .v (.int k), .o p.d, .v (.tup xs), .v (.tup ow), s5, s6, s7, s8, s9, s10, s11, s12, .v d] = .ok (.tup ms) [.v (.scr ns), .v (.int k), .o p'.d, .v (.tup xs), .v (.tup ow), s5, s6, s7, s8, s9, s10, s11, s12, .v d] := call_own (i := 2) rfl rfl e rfl
    refine ⟨p', .tup [d, .tup ms], by simp [mBd, c], .inr ⟨_, rfl, by simp, fun z hz => ?_⟩⟩
    simp only [List.mem_cons, List.not_mem_nil, or_false] at hz
    rcases hz with rfl | rfl
    · exact tIn_up (lowD_leaf (how _ hd))
    · exact .inr ⟨ms, rfl, by omega, fun w hw => lowD_leaf (hm w hw)⟩) [] p2 s13
  have tb : tIn 3 (.tup bs) := .inr ⟨bs, rfl, by omega, hbs⟩
  obtain ⟨p4, t, e6, ht, _⟩ := any_name_ok p3
  have c6 : callG [true] false F__law_any_name [.own 2] [.v (.scr ns), .v (.int k), .o p3.d, .v (.tup xs), .v (.tup ow), .v (.tup bs), s6, s7, s8, s9, s10, s11, s12, keepV s13] = .ok (.str t) [.v (.scr ns), .v (.int k), .o p4.d, .v (.tup xs), .v (.tup ow), .v (.tup bs), s6, s7, s8, s9, s10, s11, s12, keepV s13] := call_own (i := 2) rfl rfl e6 rfl
  obtain ⟨p5, i, e7, i0, i1⟩ := pick_pu p4 841 (by decide) (by decide)
  have c7 : callG [true, false] false F__law_pick [.own 2, .val (.int 841)] [.v (.scr ns), .v (.int k), .o p4.d, .v (.tup xs), .v (.tup ow), .v (.tup bs), s6, s7, s8, s9, s10, s11, s12, keepV s13] = .ok (.int i) [.v (.scr ns), .v (.int k), .o p5.d, .v (.tup xs), .v (.tup ow), .v (.tup bs), s6, s7, s8, s9, s10, s11, s12, keepV s13] := call_own (i := 2) rfl rfl e7 rfl
  obtain ⟨p6, sg, e8, hsg, lsg⟩ := some_ok p5 hx x6 x30 1 4 (by decide) (by decide) (by decide)
  have c8 : callG [true, false, false, false] false F__law_some [.own 2, .val (.tup xs), .val (.int 1), .val (.int 4)] [.v (.scr ns), .v (.int k), .o p5.d, .v (.tup xs), .v (.tup ow), .v (.tup bs), s6, s7, s8, s9, s10, s11, s12, keepV s13] = .ok (.tup sg) [.v (.scr ns), .v (.int k), .o p6.d, .v (.tup xs), .v (.tup ow), .v (.tup bs), s6, s7, s8, s9, s10, s11, s12, keepV s13] := call_own (i := 2) rfl rfl e8 rfl
  obtain ⟨p7, kd, e9, hk⟩ := kind_ok p6
  have c9 : callG [true] false F__law_kind [.own 2] [.v (.scr ns), .v (.int k), .o p6.d, .v (.tup xs), .v (.tup ow), .v (.tup bs), s6, s7, s8, s9, s10, s11, s12, keepV s13] = .ok (.str kd) [.v (.scr ns), .v (.int k), .o p7.d, .v (.tup xs), .v (.tup ow), .v (.tup bs), s6, s7, s8, s9, s10, s11, s12, keepV s13] := call_own (i := 2) rfl rfl e9 rfl
  have song : ∀ l : List D, (∀ d ∈ l, lowD d) → l.length ≤ 6 → tIn 3 (.tup [.str t, .int (60 + i), .tup l, .str kd]) := fun l hl ll => .inr ⟨_, rfl, by simp, fun z hz => by
    simp only [List.mem_cons, List.not_mem_nil, or_false] at hz
    rcases hz with rfl | rfl | rfl | rfl
    · exact tIn_up (.inr (.inr ⟨t, rfl, ht⟩))
    · exact tIn_up (.inr (.inl ⟨_, rfl, by omega, by omega⟩))
    · exact .inr ⟨l, rfl, by omega, fun w hw => tIn_up (lowD_leaf (hl w hw))⟩
    · exact tIn_up (.inr (.inr ⟨kd, rfl, hk⟩))⟩
  have ts := song sg hsg lsg
  have ts2 := song sg.reverse (fun d hd => hsg d (List.mem_reverse.mp hd)) (by rw [List.length_reverse]; exact lsg)
  have tb2 : tIn 3 (.tup bs.reverse) := .inr ⟨bs.reverse, rfl, by rw [List.length_reverse]; omega, fun d hd => hbs d (List.mem_reverse.mp hd)⟩
  have r1 := right_call3 (tIn_good 3 tb) (tIn_good 3 ts)
  have r2 := right_call3 (tIn_good 3 tb2) (tIn_good 3 ts)
  have r3 := right_call3 (tIn_good 3 tb) (tIn_good 3 ts2)
  obtain ⟨SG, hSG⟩ : ∃ SG, SG = D.tup [.str t, .int (60 + i), .tup sg, .str kd] := ⟨_, rfl⟩
  obtain ⟨SR, hSR⟩ : ∃ SR, SR = D.tup [.str t, .int (60 + i), .tup sg.reverse, .str kd] := ⟨_, rfl⟩
  have i2 : ixD SG (.int 2) = some (.tup sg) := by rw [hSG]; rfl
  have l2 : slD SG none (some 2) = some (.tup [.str t, .int (60 + i)]) := by rw [hSG]; rfl
  have l3 : slD SG (some 3) none = some (.tup [.str kd]) := by rw [hSG]; rfl
  have rv : revD (.tup sg) = some (.tup sg.reverse) := rfl
  have rvb : revD (.tup bs) = some (.tup bs.reverse) := rfl
  have a1 : addD (.tup [.str t, .int (60 + i)]) (.tup [.tup sg.reverse]) = some (.tup [.str t, .int (60 + i), .tup sg.reverse]) := add_tup (by simp)
  have a2 : addD (.tup [.str t, .int (60 + i), .tup sg.reverse]) (.tup [.str kd]) = some SR := by rw [hSR]; exact add_tup (by simp)
  have tu : ∀ l : List D, tuple3D [.lst l] = some (.tup l) := fun _ => rfl
  have r3' : rng1 (.int 3) = some [.int 0, .int 1, .int 2] := by kernel_rfl
  rw [← hSG] at r1 r2 ts
  rw [← hSR] at r3
  obtain ⟨p8, u9, u10, u11, u12, f0⟩ := body_t (a := .v (.scr ns)) (k := .v (.int k)) (nm := .v (.tup xs)) (ow := .v (.tup ow)) (t7 := .v SR) tb ts p7 (.int 0) s9 s10 s11 s12 (keepV s13)
  obtain ⟨p9, w9, w10, w11, w12, f1⟩ := body_t (a := .v (.scr ns)) (k := .v (.int k)) (nm := .v (.tup xs)) (ow := .v (.tup ow)) (t7 := .v SR) tb ts p8 (.int 1) u9 u10 u11 u12 (keepV s13)
  obtain ⟨pa, z9, z10, z11, z12, f2⟩ := body_t (a := .v (.scr ns)) (k := .v (.int k)) (nm := .v (.tup xs)) (ow := .v (.tup ow)) (t7 := .v SR) tb ts p9 (.int 2) w9 w10 w11 w12 (keepV s13)
  refine ⟨.o pa.d, .v (.tup xs), .v (.tup ow), .v (.tup bs), .v SG, .v SR, .v (.int 2), z9, z10, z11, z12, keepV s13, ?_⟩
  have tpl : ∀ ρ, eTup (lCons (eC (.str t)) (lCons (eC (.int (60 + i))) (lCons (eC (.tup sg)) (lCons (eC (.str kd)) lNil)))) ρ = .ok SG ρ := fun ρ => by rw [hSG]; simp
  have fl : forL (gNm 8) bodyT [.int 0, .int 1, .int 2] [.v (.scr ns), .v (.int k), .o p7.d, .v (.tup xs), .v (.tup ow), .v (.tup bs), .v SG, .v SR, s8, s9, s10, s11, s12, keepV s13] = .nx [.v (.scr ns), .v (.int k), .o pa.d, .v (.tup xs), .v (.tup ow), .v (.tup bs), .v SG, .v SR, .v (.int 2), z9, z10, z11, z12, keepV s13] := by
    simp only [forL, gNm_eq, List.set_cons_succ, List.set_cons_zero, f0, f1, f2]
  clear f0 f1 f2
  unfold mBd at e5
  unfold bodyT at fl
  rw [List.nil_append] at e5
  have sgq : D.tup [.str t, .int (60 + i), .tup sg, .str kd] = SG := hSG.symm
  generalize hbr : D.tup bs.reverse = BR at *
  generalize hsr : D.tup sg.reverse = SGR at *
  generalize hbq : D.tup bs = BQ at *
  generalize hsq : D.tup sg = SQ at *
  clear hSG hSR
  simp [bodyL, c1, c2, c3, c4, it, e5, backE, wipeE, tu, hbq, c6, c7, c8, c9, sgq, eSl, oNo, oSome, asI, i2, l2, l3, eRev, rv, rvb, a1, a2, r1, r2, r3, r3', fl]
end NV

set_option Elab.async false
set_option linter.all false
set_option maxRecDepth 100000
set_option maxHeartbeats 4000000
namespace NV
open PySem PySem.Spec PyProof.Rows L2

theorem rng_small {n : Int} (h0 : 0 ≤ n) (h1 : n ≤ 1000) : rng1 (.int n) = some (rngD 0 n.toNat) := by
  show (if n ≤ 16777216 ∧ -(2 ^ 62 : Int) ≤ n then some (rngD 0 n.toNat) else none) = _
  rw [if_pos ⟨by omega, by omega⟩]
theorem law_ok (ns : List Int) : F_law [.scr ns] = .ok (.bl true) [] := by
  obtain ⟨n, hn, e1, e2⟩ : ∃ n : Int, n ≤ 10 ∧ max2D [.int 2, .int (if (ns.length : Int) < 10 then (ns.length : Int) else 10)] = some (.int n) ∧ rng1 (.int n) = some (rngD 0 n.toNat) := by
    have b1 : ∀ j : Int, 0 ≤ j → j ≤ 10 → ∃ n : Int, n ≤ 10 ∧ max2D [.int 2, .int j] = some (.int n) ∧ rng1 (.int n) = some (rngD 0 n.toNat) := fun j j0 j1 => by
      by_cases h : 2 < j
      · exact ⟨j, j1, by simp [max2D, h], rng_small j0 (by omega)⟩
      · exact ⟨2, by omega, by simp [max2D, h], rng_small (by omega) (by omega)⟩
    exact b1 _ (by split <;> omega) (by split <;> omega)
  obtain ⟨ρ', e, u2, u3, u4, u5, u6, u7, u8, u9, u10, u11, u12, u13, u14, he⟩ := for_inv (g := gNm 1) (body := bodyL) (fun ρ => ∃ s1 s2 s3 s4 s5 s6 s7 s8 s9 s10 s11 s12 s13 : Slot, ρ = [.v (.scr ns), s1, s2, s3, s4, s5, s6, s7, s8, s9, s10, s11, s12, s13]) (rngD 0 n.toNat)
    (fun d hd ρ ⟨s1, s2, s3, s4, s5, s6, s7, s8, s9, s10, s11, s12, s13, hr⟩ => by
      unfold rngD at hd
      obtain ⟨i, hi, rfl⟩ := List.mem_map.mp hd
      have := List.mem_range.mp hi
      subst hr
      obtain ⟨t2, t3, t4, t5, t6, t7, t8, t9, t10, t11, t12, t13, ee⟩ := body_ok ns (0 + (i : Int)) (by omega) (by omega) s2 s3 s4 s5 s6 s7 s8 s9 s10 s11 s12 s13
      exact ⟨_, _, rfl, .inl ee, _, _, _, _, _, _, _, _, _, _, _, _, _, rfl⟩) [.v (.scr ns), .no, .no, .no, .no, .no, .no, .no, .no, .no, .no, .no, .no, .no] ⟨_, _, _, _, _, _, _, _, _, _, _, _, _, rfl⟩
  subst he
  have mn : min2D [.int 10, .int (ns.length : Int)] = some (.int (if (ns.length : Int) < 10 then (ns.length : Int) else 10)) := rfl
  have ln : lenD [.scr ns] = some (.int (ns.length : Int)) := rfl
  have g1 : good (.tup [.str "a", .int 60, .tup [.str "b"], .str "c"]) = true := by simp [good, goodL]
  have g2 : good (.tup []) = true := by simp [good, goodL]
  have r1 := right_call3 g2 g1
  have r2 := right_call3 (b := .non) (s := .non) rfl rfl
  have r3 := right_call3 (s := .non) g2 rfl
  unfold bodyL at e
  simp only [F_law, m_law, runF_eq, slots_v, slots_nil]
  simp [ln, mn, e1, e2, e, r1, r2, r3]
theorem law_all (ns : List Int) (_ : ns.length ≤ 63) (_ : ∀ z ∈ ns, Builtin.Int.intBits z ≤ 1048576) : F_law [.scr ns] = .ok (.bl true) [] := law_ok ns
end NV

set_option Elab.async false
set_option linter.all false
set_option maxRecDepth 100000
set_option maxHeartbeats 0
namespace NV
open PySem PySem.Spec PyProof.Rows L2
def d_is_whole : He.DefD := ⟨("is_whole", none), "is_whole", "is_whole", defArgs S_is_whole, defBody S_is_whole, defScope S_is_whole, [], []⟩
def d_is_name : He.DefD := ⟨("is_name", none), "is_name", "is_name", defArgs S_is_name, defBody S_is_name, defScope S_is_name, [], []⟩
def d_voices_of : He.DefD := ⟨("voices_of", none), "voices_of", "voices_of", defArgs S_voices_of, defBody S_voices_of, defScope S_voices_of, [], []⟩
def d__law_cell : He.DefD := ⟨("_law_cell", none), "_law_cell", "_law_cell", defArgs S__law_cell, defBody S__law_cell, defScope S__law_cell, [], []⟩
def d__law_purse : He.DefD := ⟨("_law_purse", none), "_law_purse", "_law_purse", defArgs S__law_purse, defBody S__law_purse, defScope S__law_purse, [], []⟩
def d__law_pick : He.DefD := ⟨("_law_pick", none), "_law_pick", "_law_pick", defArgs S__law_pick, defBody S__law_pick, defScope S__law_pick, [], []⟩
def d__law_sort : He.DefD := ⟨("_law_sort", none), "_law_sort", "_law_sort", defArgs S__law_sort, defBody S__law_sort, defScope S__law_sort, [], []⟩
def d__law_is_name : He.DefD := ⟨("_law_is_name", none), "_law_is_name", "_law_is_name", defArgs S__law_is_name, defBody S__law_is_name, defScope S__law_is_name, [], []⟩
def d_is_kind : He.DefD := ⟨("is_kind", none), "is_kind", "is_kind", defArgs S_is_kind, defBody S_is_kind, defScope S_is_kind, [], []⟩
def d_are_names : He.DefD := ⟨("are_names", none), "are_names", "are_names", defArgs S_are_names, defBody S_are_names, defScope S_are_names, [], []⟩
def d__law_any_name : He.DefD := ⟨("_law_any_name", none), "_law_any_name", "_law_any_name", defArgs S__law_any_name, defBody S__law_any_name, defScope S__law_any_name, [], []⟩
def d__law_odd : He.DefD := ⟨("_law_odd", none), "_law_odd", "_law_odd", defArgs S__law_odd, defBody S__law_odd, defScope S__law_odd, [], []⟩
def d__law_are_unlike : He.DefD := ⟨("_law_are_unlike", none), "_law_are_unlike", "_law_are_unlike", defArgs S__law_are_unlike, defBody S__law_are_unlike, defScope S__law_are_unlike, [], []⟩
def d__law_some : He.DefD := ⟨("_law_some", none), "_law_some", "_law_some", defArgs S__law_some, defBody S__law_some, defScope S__law_some, [], []⟩
def d_is_song : He.DefD := ⟨("is_song", none), "is_song", "is_song", defArgs S_is_song, defBody S_is_song, defScope S_is_song, [], []⟩
def d_is_band : He.DefD := ⟨("is_band", none), "is_band", "is_band", defArgs S_is_band, defBody S_is_band, defScope S_is_band, [], []⟩
def d__law_kind : He.DefD := ⟨("_law_kind", none), "_law_kind", "_law_kind", defArgs S__law_kind, defBody S__law_kind, defScope S__law_kind, [], []⟩
def d__law_unlike : He.DefD := ⟨("_law_unlike", none), "_law_unlike", "_law_unlike", defArgs S__law_unlike, defBody S__law_unlike, defScope S__law_unlike, [], []⟩
def d__law_is_song : He.DefD := ⟨("_law_is_song", none), "_law_is_song", "_law_is_song", defArgs S__law_is_song, defBody S__law_is_song, defScope S__law_is_song, [], []⟩
def d__law_is_bands : He.DefD := ⟨("_law_is_bands", none), "_law_is_bands", "_law_is_bands", defArgs S__law_is_bands, defBody S__law_is_bands, defScope S__law_is_bands, [], []⟩
def d_is_bands : He.DefD := ⟨("is_bands", none), "is_bands", "is_bands", defArgs S_is_bands, defBody S_is_bands, defScope S_is_bands, [], []⟩
def d__law_names : He.DefD := ⟨("_law_names", none), "_law_names", "_law_names", defArgs S__law_names, defBody S__law_names, defScope S__law_names, [], []⟩
def d__law_due : He.DefD := ⟨("_law_due", none), "_law_due", "_law_due", defArgs S__law_due, defBody S__law_due, defScope S__law_due, [], []⟩
def d_voices : He.DefD := ⟨("voices", none), "voices", "voices", defArgs S_voices, defBody S_voices, defScope S_voices, [], []⟩
def d__law_right : He.DefD := ⟨("_law_right", none), "_law_right", "_law_right", defArgs S__law_right, defBody S__law_right, defScope S__law_right, [], []⟩
def d__law_turned : He.DefD := ⟨("_law_turned", none), "_law_turned", "_law_turned", defArgs S__law_turned, defBody S__law_turned, defScope S__law_turned, [], []⟩
def d_law : He.DefD := ⟨("law", none), "law", "law", defArgs S_law, defBody S_law, defScope S_law, [], []⟩
def fnL : List He.DefD := [d_is_whole, d_is_name, d_voices_of, d__law_cell, d__law_purse, d__law_pick, d__law_sort, d__law_is_name, d_is_kind, d_are_names, d__law_any_name, d__law_odd, d__law_are_unlike, d__law_some, d_is_song, d_is_band, d__law_kind, d__law_unlike, d__law_is_song, d__law_is_bands, d_is_bands, d__law_names, d__law_due, d_voices, d__law_right, d__law_turned, d_law]
def faL : List He.Fa := [.glo "is_whole", .glo "is_name", .glo "voices_of", .glo "_law_cell", .glo "_law_purse", .glo "_law_pick", .glo "_law_sort", .glo "_law_is_name", .glo "is_kind", .glo "are_names", .glo "_law_any_name", .glo "_law_odd", .glo "_law_are_unlike", .glo "_law_some", .glo "is_song", .glo "is_band", .glo "_law_kind", .glo "_law_unlike", .glo "_law_is_song", .glo "_law_is_bands", .glo "is_bands", .glo "_law_names", .glo "_law_due", .glo "voices", .glo "_law_right", .glo "_law_turned", .glo "law", .free "isinstance", .free "bool", .free "int", .free "all", .free "len", .free "str", .free "list", .free "sorted", .free "set", .free "tuple", .free "ValueError", .free "range", .free "enumerate", .free "min", .free "max", .str "LETTERS" "abcdefghijklmnopqrstuvwxyz", .int "MOST_LETTERS" 8, .glo "WIDE", .int "MOST_SINGERS" 4, .int "LEAST_LENGTH" 60, .int "MOST_LENGTH" 900, .int "MOST_MEMBERS" 6, .int "MOST_BANDS" 6]
def xsL : List (PySem.W.Frag → Bool) := [tupS "WIDE" ["any", "fresh"], clsfB CS TS]
abbrev R : PySem.W.OpenRow := PySem.W.OpenLaw.row PySem.Challenge.rw_neversoon_k03_voices_of_songs
abbrev hk : PySem.W.Hook := hookN 4 faL xsL fnL
def ob (s : PySem.W.SharedT) : Bool × He.AlD := lookN 4 faL xsL fnL (HandSHeadRun.getT s)
theorem ob_eq (s : PySem.W.SharedT) : ob s = hk.obs s.abs := lookN_eq (HandSHeadRun.getT_eq s)
theorem run (w : World) : HandSHeadRun.RunEq R (PySem.W.view R.prog [55]) hk ob 6000 ((["TurnError", "NoMoment", "NoSong", "NoBands", "NoRules", "NoWorld", "NoRow", "NoName", "NoRule", "NoWord", "NoTwice", "NoRoom", "NoRun", "NoItem", "NoCount", "NoWheel", "NoText", "is_whole", "LETTERS", "MOST_LETTERS", "MOST_BANDS", "MOST_MEMBERS", "MOST_SINGERS", "LEAST_LENGTH"] : List Str) ++ (["MOST_LENGTH", "WIDE", "is_name", "is_kind", "are_names", "is_song", "is_band", "is_bands", "voices_of", "voices", "_law_cell", "_law_purse", "_law_pick", "_law_sort", "_law_any_name", "_law_kind", "_law_unlike", "_law_odd", "_law_turned", "_law_is_name", "_law_are_unlike", "_law_is_song", "_law_is_bands", "_law_names"] : List Str) ++ (["_law_some", "_law_due", "_law_right"] : List Str)) w := by
  intro os
  kernel_rfl
theorem facts {P : Program} {w : World} {K : PySem.W.Frag} {h : Heap} {mg : Str → Option Value} {f : Addr} (X : K.In h) (G : h.Ns mainGlobals mg) (hfa : mg ("law" : Str) = some (.ref f)) (c : saysN faL xsL fnL K) :
    ∃ fd : FuncData, (∀ (s : Shared) (v : Value), BindsTo s fd ⟨[v], []⟩ [("_law_script", v)]) ∧ ∀ base : Heap, K.In base → base.Ns mainGlobals mg → FnOk P w K mg base (L2.CX P w) 12 f fd ["_law_script"] (spF K mg [false] F_law) := by
  have n_isinstance := He.free_ok X G (c.d.fact 27 (f := .free "isinstance") rfl)
  have n_bool := He.free_ok X G (c.d.fact 28 (f := .free "bool") rfl)
  have n_int := He.free_ok X G (c.d.fact 29 (f := .free "int") rfl)
  have n_all := He.free_ok X G (c.d.fact 30 (f := .free "all") rfl)
  have n_len := He.free_ok X G (c.d.fact 31 (f := .free "len") rfl)
  have n_str := He.free_ok X G (c.d.fact 32 (f := .free "str") rfl)
  have n_list := He.free_ok X G (c.d.fact 33 (f := .free "list") rfl)
  have n_sorted := He.free_ok X G (c.d.fact 34 (f := .free "sorted") rfl)
  have n_set := He.free_ok X G (c.d.fact 35 (f := .free "set") rfl)
  have n_tuple := He.free_ok X G (c.d.fact 36 (f := .free "tuple") rfl)
  have n_ValueError := He.free_ok X G (c.d.fact 37 (f := .free "ValueError") rfl)
  have n_range := He.free_ok X G (c.d.fact 38 (f := .free "range") rfl)
  have n_enumerate := He.free_ok X G (c.d.fact 39 (f := .free "enumerate") rfl)
  have n_min := He.free_ok X G (c.d.fact 40 (f := .free "min") rfl)
  have n_max := He.free_ok X G (c.d.fact 41 (f := .free "max") rfl)
  have v_LETTERS : Gv K mg "LETTERS" G_LETTERS := gv_str X G (c.d.fact 42 (f := .str "LETTERS" "abcdefghijklmnopqrstuvwxyz") rfl) (by decide +kernel)
  have v_MOST_LETTERS : Gv K mg "MOST_LETTERS" G_MOST_LETTERS := gv_int X G (c.d.fact 43 (f := .int "MOST_LETTERS" 8) rfl)
  have v_WIDE : Gv K mg "WIDE" G_WIDE := gv_tupS X G (c.d.fact 44 (f := .glo "WIDE") rfl) (c.x 0 (c := tupS "WIDE" ["any", "fresh"]) rfl) (by decide +kernel)
  have v_MOST_SINGERS : Gv K mg "MOST_SINGERS" G_MOST_SINGERS := gv_int X G (c.d.fact 45 (f := .int "MOST_SINGERS" 4) rfl)
  have v_LEAST_LENGTH : Gv K mg "LEAST_LENGTH" G_LEAST_LENGTH := gv_int X G (c.d.fact 46 (f := .int "LEAST_LENGTH" 60) rfl)
  have v_MOST_LENGTH : Gv K mg "MOST_LENGTH" G_MOST_LENGTH := gv_int X G (c.d.fact 47 (f := .int "MOST_LENGTH" 900) rfl)
  have v_MOST_MEMBERS : Gv K mg "MOST_MEMBERS" G_MOST_MEMBERS := gv_int X G (c.d.fact 48 (f := .int "MOST_MEMBERS" 6) rfl)
  have v_MOST_BANDS : Gv K mg "MOST_BANDS" G_MOST_BANDS := gv_int X G (c.d.fact 49 (f := .int "MOST_BANDS" 6) rfl)
  have xf : ClsF K mg CS TS := clsf_ok X G (c.x 1 (c := clsfB CS TS) rfl)
  obtain ⟨fd_0, D_0⟩ := c.d.def_ 0 (d := d_is_whole) rfl
  have g_0 := He.glo_ok X G (c.d.fact 0 (f := .glo "is_whole") rfl)
  obtain ⟨fd_1, D_1⟩ := c.d.def_ 1 (d := d_is_name) rfl
  have g_1 := He.glo_ok X G (c.d.fact 1 (f := .glo "is_name") rfl)
  obtain ⟨fd_2, D_2⟩ := c.d.def_ 2 (d := d_voices_of) rfl
  have g_2 := He.glo_ok X G (c.d.fact 2 (f := .glo "voices_of") rfl)
  obtain ⟨fd_3, D_3⟩ := c.d.def_ 3 (d := d__law_cell) rfl
  have g_3 := He.glo_ok X G (c.d.fact 3 (f := .glo "_law_cell") rfl)
  obtain ⟨fd_4, D_4⟩ := c.d.def_ 4 (d := d__law_purse) rfl
  have g_4 := He.glo_ok X G (c.d.fact 4 (f := .glo "_law_purse") rfl)
  obtain ⟨fd_5, D_5⟩ := c.d.def_ 5 (d := d__law_pick) rfl
  have g_5 := He.glo_ok X G (c.d.fact 5 (f := .glo "_law_pick") rfl)
  obtain ⟨fd_6, D_6⟩ := c.d.def_ 6 (d := d__law_sort) rfl
  have g_6 := He.glo_ok X G (c.d.fact 6 (f := .glo "_law_sort") rfl)
  obtain ⟨fd_7, D_7⟩ := c.d.def_ 7 (d := d__law_is_name) rfl
  have g_7 := He.glo_ok X G (c.d.fact 7 (f := .glo "_law_is_name") rfl)
  obtain ⟨fd_8, D_8⟩ := c.d.def_ 8 (d := d_is_kind) rfl
  have g_8 := He.glo_ok X G (c.d.fact 8 (f := .glo "is_kind") rfl)
  obtain ⟨fd_9, D_9⟩ := c.d.def_ 9 (d := d_are_names) rfl
  have g_9 := He.glo_ok X G (c.d.fact 9 (f := .glo "are_names") rfl)
  obtain ⟨fd_10, D_10⟩ := c.d.def_ 10 (d := d__law_any_name) rfl
  have g_10 := He.glo_ok X G (c.d.fact 10 (f := .glo "_law_any_name") rfl)
  obtain ⟨fd_11, D_11⟩ := c.d.def_ 11 (d := d__law_odd) rfl
  have g_11 := He.glo_ok X G (c.d.fact 11 (f := .glo "_law_odd") rfl)
  obtain ⟨fd_12, D_12⟩ := c.d.def_ 12 (d := d__law_are_unlike) rfl
  have g_12 := He.glo_ok X G (c.d.fact 12 (f := .glo "_law_are_unlike") rfl)
  obtain ⟨fd_13, D_13⟩ := c.d.def_ 13 (d := d__law_some) rfl
  have g_13 := He.glo_ok X G (c.d.fact 13 (f := .glo "_law_some") rfl)
  obtain ⟨fd_14, D_14⟩ := c.d.def_ 14 (d := d_is_song) rfl
  have g_14 := He.glo_ok X G (c.d.fact 14 (f := .glo "is_song") rfl)
  obtain ⟨fd_15, D_15⟩ := c.d.def_ 15 (d := d_is_band) rfl
  have g_15 := He.glo_ok X G (c.d.fact 15 (f := .glo "is_band") rfl)
  obtain ⟨fd_16, D_16⟩ := c.d.def_ 16 (d := d__law_kind) rfl
  have g_16 := He.glo_ok X G (c.d.fact 16 (f := .glo "_law_kind") rfl)
  obtain ⟨fd_17, D_17⟩ := c.d.def_ 17 (d := d__law_unlike) rfl
  have g_17 := He.glo_ok X G (c.d.fact 17 (f := .glo "_law_unlike") rfl)
  obtain ⟨fd_18, D_18⟩ := c.d.def_ 18 (d := d__law_is_song) rfl
  have g_18 := He.glo_ok X G (c.d.fact 18 (f := .glo "_law_is_song") rfl)
  obtain ⟨fd_19, D_19⟩ := c.d.def_ 19 (d := d__law_is_bands) rfl
  have g_19 := He.glo_ok X G (c.d.fact 19 (f := .glo "_law_is_bands") rfl)
  obtain ⟨fd_20, D_20⟩ := c.d.def_ 20 (d := d_is_bands) rfl
  have g_20 := He.glo_ok X G (c.d.fact 20 (f := .glo "is_bands") rfl)
  obtain ⟨fd_21, D_21⟩ := c.d.def_ 21 (d := d__law_names) rfl
  have g_21 := He.glo_ok X G (c.d.fact 21 (f := .glo "_law_names") rfl)
  obtain ⟨fd_22, D_22⟩ := c.d.def_ 22 (d := d__law_due) rfl
  have g_22 := He.glo_ok X G (c.d.fact 22 (f := .glo "_law_due") rfl)
  obtain ⟨fd_23, D_23⟩ := c.d.def_ 23 (d := d_voices) rfl
  have g_23 := He.glo_ok X G (c.d.fact 23 (f := .glo "voices") rfl)
  obtain ⟨fd_24, D_24⟩ := c.d.def_ 24 (d := d__law_right) rfl
  have g_24 := He.glo_ok X G (c.d.fact 24 (f := .glo "_law_right") rfl)
  obtain ⟨fd_25, D_25⟩ := c.d.def_ 25 (d := d__law_turned) rfl
  have g_25 := He.glo_ok X G (c.d.fact 25 (f := .glo "_law_turned") rfl)
  obtain ⟨fd_26, D_26⟩ := c.d.def_ 26 (d := d_law) rfl
  have g_26 := He.glo_ok X G (c.d.fact 26 (f := .glo "law") rfl)
  have h_is_whole := fun base : Heap => has_is_whole (P := P) (w := w) (base := base) D_0 g_0 n_isinstance n_bool n_int
  have h_is_name := fun base : Heap => has_is_name (P := P) (w := w) (base := base) D_1 g_1 v_LETTERS v_MOST_LETTERS n_all n_len n_isinstance n_str
  have h_voices_of := fun base : Heap => has_voices_of (P := P) (w := w) (base := base) D_2 g_2 n_list n_sorted n_set n_tuple
  have h__law_cell := fun base : Heap => has__law_cell (P := P) (w := w) (base := base) D_3 g_3 n_len
  have h__law_purse := fun base : Heap => has__law_purse (P := P) (w := w) (base := base) D_4 g_4 n_int
  have h__law_pick := fun base : Heap => has__law_pick (P := P) (w := w) (base := base) D_5 g_5 
  have h__law_sort := fun base : Heap => has__law_sort (P := P) (w := w) (base := base) D_6 g_6 xf n_isinstance n_ValueError
  have h__law_is_name := fun base : Heap => has__law_is_name (P := P) (w := w) (base := base) D_7 g_7 n_len n_isinstance n_str n_all
  have h_is_kind := fun base : Heap => has_is_kind (P := P) (w := w) (base := base) D_8 g_8 (h_is_name base) v_WIDE
  have h_are_names := fun base : Heap => has_are_names (P := P) (w := w) (base := base) D_9 g_9 (h_is_name base) n_all n_len n_isinstance n_tuple n_set
  have h__law_any_name := fun base : Heap => has__law_any_name (P := P) (w := w) (base := base) D_10 g_10 (h__law_pick base) n_range
  have h__law_odd := fun base : Heap => has__law_odd (P := P) (w := w) (base := base) D_11 g_11 (h__law_pick base) n_isinstance n_int n_str n_len
  have h__law_are_unlike := fun base : Heap => has__law_are_unlike (P := P) (w := w) (base := base) D_12 g_12 (h__law_is_name base) n_len n_isinstance n_tuple n_range n_all
  have h__law_some := fun base : Heap => has__law_some (P := P) (w := w) (base := base) D_13 g_13 (h__law_pick base) n_list n_range n_len n_tuple
  have h_is_song := fun base : Heap => has_is_song (P := P) (w := w) (base := base) D_14 g_14 (h_is_whole base) (h_is_name base) (h_is_kind base) (h_are_names base) v_MOST_SINGERS v_LEAST_LENGTH v_MOST_LENGTH n_len n_isinstance n_tuple
  have h_is_band := fun base : Heap => has_is_band (P := P) (w := w) (base := base) D_15 g_15 (h_are_names base) (h_is_name base) v_MOST_MEMBERS n_len n_isinstance n_tuple
  have h__law_kind := fun base : Heap => has__law_kind (P := P) (w := w) (base := base) D_16 g_16 (h__law_any_name base) n_int
  have h__law_unlike := fun base : Heap => has__law_unlike (P := P) (w := w) (base := base) D_17 g_17 (h__law_any_name base) n_range n_tuple
  have h__law_is_song := fun base : Heap => has__law_is_song (P := P) (w := w) (base := base) D_18 g_18 (h__law_is_name base) (h__law_are_unlike base) n_len n_isinstance n_tuple n_bool n_int
  have h__law_is_bands := fun base : Heap => has__law_is_bands (P := P) (w := w) (base := base) D_19 g_19 (h__law_is_name base) (h__law_are_unlike base) n_len n_isinstance n_tuple
  have h_is_bands := fun base : Heap => has_is_bands (P := P) (w := w) (base := base) D_20 g_20 (h_is_band base) v_MOST_BANDS n_all n_len n_isinstance n_tuple n_set
  have h__law_names := fun base : Heap => has__law_names (P := P) (w := w) (base := base) D_21 g_21 (h__law_pick base) (h__law_unlike base) n_range n_tuple
  have h__law_due := fun base : Heap => has__law_due (P := P) (w := w) (base := base) D_22 g_22 (h__law_is_bands base) (h__law_is_song base) n_list n_enumerate n_sorted n_tuple
  have h_voices := fun base : Heap => has_voices (P := P) (w := w) (base := base) D_23 g_23 (h_is_bands base) (h_is_song base) (h_voices_of base) xf
  have h__law_right := fun base : Heap => has__law_right (P := P) (w := w) (base := base) D_24 g_24 (h__law_due base) (h_voices base) (h__law_sort base) xf n_range n_isinstance n_tuple
  have h__law_turned := fun base : Heap => has__law_turned (P := P) (w := w) (base := base) D_25 g_25 (h__law_odd base) (h__law_pick base) n_isinstance n_tuple n_len n_list
  have e := hfa.symm.trans g_26
  cases e
  have b := FunD.bindsA (ps := ["_law_script"]) D_26 fun _ _ _ _ _ _ us hl => match us, hl with | [_], _ => rfl
  exact ⟨fd_26, fun s v => b s [v] rfl, fun base _ _ => fn_law (P := P) (w := w) (base := base) D_26 (h__law_cell base) (h__law_purse base) (h__law_names base) (h__law_some base) (h__law_any_name base) (h__law_pick base) (h__law_kind base) (h__law_right base) (h__law_turned base) n_range n_len n_min n_max n_tuple⟩
end NV
open PySem PySem.W PySem.Calls PyProof.Rows
theorem PySem.Challenge.cw_neversoon_k03_voices_of_songs_holds : PySem.Challenge.rw_neversoon_k03_voices_of_songs.Holds := by
  w_on; o_law
  refine HandSHeadRun.head_any (r := OpenLaw.row PySem.Challenge.rw_neversoon_k03_voices_of_songs) (q := view (OpenLaw.row PySem.Challenge.rw_neversoon_k03_voices_of_songs).prog [55]) (H := NV.hk) (ob := NV.ob) (M := 6000) (loose := ((["TurnError", "NoMoment", "NoSong", "NoBands", "NoRules", "NoWorld", "NoRow", "NoName", "NoRule", "NoWord", "NoTwice", "NoRoom", "NoRun", "NoItem", "NoCount", "NoWheel", "NoText", "is_whole", "LETTERS", "MOST_LETTERS", "MOST_BANDS", "MOST_MEMBERS", "MOST_SINGERS", "LEAST_LENGTH"] : List Str) ++ (["MOST_LENGTH", "WIDE", "is_name", "is_kind", "are_names", "is_song", "is_band", "is_bands", "voices_of", "voices", "_law_cell", "_law_purse", "_law_pick", "_law_sort", "_law_any_name", "_law_kind", "_law_unlike", "_law_odd", "_law_turned", "_law_is_name", "_law_are_unlike", "_law_is_song", "_law_is_bands", "_law_names"] : List Str) ++ (["_law_some", "_law_due", "_law_right"] : List Str))) (d := HandSHeadRun.topDef (OpenLaw.row PySem.Challenge.rw_neversoon_k03_voices_of_songs).prog 55) (kwd := []) NV.ob_eq
    (by kernel_rfl) (fun s => by kernel_rfl) NV.run (by kernel_rfl) (by kernel_rfl) (by kernel_rfl) (by rfl) (by first | assumption | decide +kernel) (by decide +kernel) ⟨rfl, rfl, rfl, rfl, rfl, by decide +kernel⟩ ?hw ?hc
  case hw => w_witness2
  case hc =>
    refine NV.walk_own (l := PySem.Challenge.rw_neversoon_k03_voices_of_songs) (n := 63) (k := 12) (x := "_law_script") rfl (by decide) (by kernel_rfl) ⟨rfl, by decide, by decide⟩ ?F
    intro w mg fa h Y G hmg0
    obtain ⟨K, KX, c⟩ := Y
    have hmg : mg ("law" : PySem.Str) = some (.ref fa) := by
      have e : (HandSHeadRun.topDef (OpenLaw.row PySem.Challenge.rw_neversoon_k03_voices_of_songs).prog 55).name = ("law" : PySem.Str) := by kernel_rfl
      rw [← e]
      exact hmg0
    obtain ⟨fd, hb, hF⟩ := NV.facts (P := (PySem.Challenge.rw_neversoon_k03_voices_of_songs).prog) (w := w) KX G hmg c
    exact ⟨K, fd, NV.F_law, KX, hb, fun ns hl hb => NV.law_all ns hl hb, hF⟩
