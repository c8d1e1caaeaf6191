import PyProof.Rows.All
import Wide.All
import OpenK.AllK
import Wide.FinOn
import HandS.ForSpec
import HandS.ForMost
import HandS.Flow
import HandS.Style
import HandS.TupAny
import HandS.Conv
import HandS.Deep
import HandS.IsInst
import HandS.Text
import HandS.Zip
import KE.LtData
import KE.DataCmp
import KE.DataMinMax
import HandS.HeadHook2
import HandS.Head0
import HandS.Head1
import HandS.Head2
import HandS.HeadEnd
import HandS.HeadHook1
import HandS.HeadWalk
import PyProof.Rows.SetFrom
import PyProof.TupleOfStr
import HandS.TupMul
import HandS.SetFor
import KE.DataFind
import PySem.Challenge.RW_neversoon_k04_what_rules_are
set_option Elab.async false
set_option linter.all false
set_option maxRecDepth 100000
set_option maxHeartbeats 4000000
/-! Core1: data, its representation, environments. -/
namespace NV
open PySem PySem.Spec PyProof.Rows L2
abbrev St := List (Option V)

inductive D where
  | non | bl (b : Bool) | int (i : Int) | str (x : Str)
  | tup (xs : List D) | lst (xs : List D) | dct (kvs : List (Key × D))
  | exn (c : Str) (fs : List D)
  /-- the script -/
  | scr (xs : List Int)
  deriving Inhabited

/-- a text that may stand in a list, a tuple, a dict -/
def StrG (x : Str) : Prop := x.length ≤ sizeLine ∧ PySem.PyData.strOk x = true

/-- the script: it is known to the object, or stands in the written part -/
def SqS (K : PySem.W.Frag) (H : Hp) (a : Addr) (xs : List Int) : Prop :=
  (∃ o, H a = some (.frz o (.lst (xs.map V.int)))) ∨ ∃ (o : Obj) (its : Array Value) (n : Nat), K.lookup a = some o ∧ o.cls = .type "list" ∧ o.dict = none ∧ o.data = .seq its n ∧ its.size ≤ sizeLine ∧ Vals (xs.map V.int) its.toList

mutual
inductive Rp (K : PySem.W.Frag) (M : Addr → Prop) (H : Hp) : D → V → Prop
  | non : Rp K M H .non .non
  | bl (b : Bool) : Rp K M H (.bl b) (.bl b)
  | int (i : Int) : Rp K M H (.int i) (.int i)
  | str {x : Str} : StrG x → Rp K M H (.str x) (.str x)
  | tup {a : Addr} {vs : List V} {ds : List D} : ds.length ≤ sizeLine → SqT K H a vs → RpL K M H ds vs → Rp K M H (.tup ds) (.ref a)
  | lst {a : Addr} {vs : List V} {ds : List D} : ds.length ≤ sizeLine → ¬ M a → H a = some (.lst vs) → RpL K M H ds vs → Rp K M H (.lst ds) (.ref a)
  | dct {a : Addr} {ws : List (Key × V)} {kvs : List (Key × D)} : kvs.length ≤ sizeLine → ¬ M a → H a = some (.dK ws) → RpK K M H kvs ws → Rp K M H (.dct kvs) (.ref a)
  | scr {a : Addr} {xs : List Int} : xs.length ≤ sizeLine → SqS K H a xs → Rp K M H (.scr xs) (.ref a)
inductive RpL (K : PySem.W.Frag) (M : Addr → Prop) (H : Hp) : List D → List V → Prop
  | nil : RpL K M H [] []
  | cons {d : D} {ds : List D} {v : V} {vs : List V} : Rp K M H d v → RpL K M H ds vs → RpL K M H (d :: ds) (v :: vs)
inductive RpK (K : PySem.W.Frag) (M : Addr → Prop) (H : Hp) : List (Key × D) → List (Key × V) → Prop
  | nil : RpK K M H [] []
  | cons {k : Key} {d : D} {ds : List (Key × D)} {v : V} {vs : List (Key × V)} : Rp K M H d v → RpK K M H ds vs → RpK K M H ((k, d) :: ds) ((k, v) :: vs)
end

/-- what never changes -/
def Imm : HO → Prop
  | .tup _ => True
  | .frz _ _ => True
  | _ => False

/-- from one heap to a later one: what is tracked and not owned is as it was, and is not owned later -/
def Ext (M : Addr → Prop) (H : Hp) (M' : Addr → Prop) (H' : Hp) : Prop :=
  ∀ b o, H b = some o → (¬ M b ∨ Imm o) → H' b = some o ∧ (¬ M b → ¬ M' b)

theorem Ext.refl {M : Addr → Prop} {H : Hp} : Ext M H M H := fun _ _ e _ => ⟨e, fun n => n⟩
theorem Ext.trans {M M1 M2 : Addr → Prop} {H H1 H2 : Hp} (a : Ext M H M1 H1) (b : Ext M1 H1 M2 H2) : Ext M H M2 H2 := fun c o e h => by
  obtain ⟨e1, n1⟩ := a c o e h
  rcases h with h | h
  · obtain ⟨e2, n2⟩ := b c o e1 (.inl (n1 h))
    exact ⟨e2, fun n => n2 (n1 n)⟩
  · obtain ⟨e2, n2⟩ := b c o e1 (.inr h)
    exact ⟨e2, fun n => n2 (n1 n)⟩

theorem Ext.sqT {K : PySem.W.Frag} {M M' : Addr → Prop} {H H' : Hp} (x : Ext M H M' H') {a : Addr} {xs : List V} (h : SqT K H a xs) : SqT K H' a xs := by
  rcases h with (h | ⟨o, h⟩) | h
  · exact .inl (.inl (x _ _ h (.inr trivial)).1)
  · exact .inl (.inr ⟨o, (x _ _ h (.inr trivial)).1⟩)
  · exact .inr h
theorem Ext.sqS {K : PySem.W.Frag} {M M' : Addr → Prop} {H H' : Hp} (x : Ext M H M' H') {a : Addr} {xs : List Int} (h : SqS K H a xs) : SqS K H' a xs := by
  rcases h with ⟨o, h⟩ | h
  · exact .inl ⟨o, (x _ _ h (.inr trivial)).1⟩
  · exact .inr h
theorem SqS.sql {K : PySem.W.Frag} {H : Hp} {a : Addr} {xs : List Int} (h : SqS K H a xs) : SqL K H a (xs.map V.int) := by
  rcases h with ⟨o, h⟩ | h
  · exact .inl (.inr ⟨o, h⟩)
  · exact .inr h

section
variable {K : PySem.W.Frag} {M M' : Addr → Prop} {H H' : Hp}
mutual
theorem Rp.ext (x : Ext M H M' H') : ∀ {d : D} {v : V}, Rp K M H d v → Rp K M' H' d v
  | .non, _, h => by cases h; exact .non
  | .bl b, _, h => by cases h; exact .bl b
  | .int i, _, h => by cases h; exact .int i
  | .str z, _, h => by
    cases h with
    | str g => exact .str g
  | .tup ds, _, h => by
    cases h with
    | tup l h1 h2 => exact .tup l (x.sqT h1) (RpL.ext x h2)
  | .lst ds, _, h => by
    cases h with
    | lst l n h1 h2 => exact .lst l ((x _ _ h1 (.inl n)).2 n) (x _ _ h1 (.inl n)).1 (RpL.ext x h2)
  | .dct kvs, _, h => by
    cases h with
    | dct l n h1 h2 => exact .dct l ((x _ _ h1 (.inl n)).2 n) (x _ _ h1 (.inl n)).1 (RpK.ext x h2)
  | .exn _ _, _, h => by cases h
  | .scr xs, _, h => by
    cases h with
    | scr l h1 => exact .scr l (x.sqS h1)
theorem RpL.ext (x : Ext M H M' H') : ∀ {ds : List D} {vs : List V}, RpL K M H ds vs → RpL K M' H' ds vs
  | [], _, h => by cases h; exact .nil
  | d :: ds, _, h => by
    cases h with
    | cons h1 h2 => exact .cons (Rp.ext x h1) (RpL.ext x h2)
theorem RpK.ext (x : Ext M H M' H') : ∀ {ds : List (Key × D)} {vs : List (Key × V)}, RpK K M H ds vs → RpK K M' H' ds vs
  | [], _, h => by cases h; exact .nil
  | (k, d) :: ds, _, h => by
    cases h with
    | cons h1 h2 => exact .cons (Rp.ext x h1) (RpK.ext x h2)
end
/-- fewer owned -/
theorem Ext.sub (h : ∀ b, M' b → M b) : Ext M H M' H := fun b o e _ => ⟨e, fun n z => n (h b z)⟩
/-- a new object -/
theorem Ext.new {p : Addr} {o : HO} (hp : H p = none) : Ext M H M (upd H p o) := fun b u e _ => ⟨by rw [upd_ne (ne_of_none e hp)]; exact e, fun n => n⟩
/-- a new object that is owned -/
theorem Ext.newO {p : Addr} {o : HO} (hp : H p = none) : Ext M H (fun b => M b ∨ b = p) (upd H p o) := fun b u e _ =>
  ⟨by rw [upd_ne (ne_of_none e hp)]; exact e, fun n z => z.elim n fun q => ne_of_none e hp q⟩
/-- an owned object is written -/
theorem Ext.write {a : Addr} {o u : HO} (h : M a) (e : H a = some u) (i : ¬ Imm u) : Ext M H M (upd H a o) := fun b q eb hb => by
  have nb : b ≠ a := fun z => by
    subst z
    rw [e] at eb; cases eb
    exact hb.elim (fun n => n h) i
  exact ⟨by rw [upd_ne nb]; exact eb, fun n => n⟩

theorem RpL.length : ∀ {ds : List D} {vs : List V}, RpL K M H ds vs → ds.length = vs.length
  | [], _, h => by cases h; rfl
  | d :: ds, _, h => by
    cases h with
    | cons h1 h2 => simp [RpL.length h2]
theorem RpK.length : ∀ {ds : List (Key × D)} {vs : List (Key × V)}, RpK K M H ds vs → ds.length = vs.length
  | [], _, h => by cases h; rfl
  | d :: ds, _, h => by
    cases h with
    | cons h1 h2 => simp [RpK.length h2]
theorem RpL.get : ∀ {ds : List D} {vs : List V} {i : Nat} {d : D}, RpL K M H ds vs → ds[i]? = some d → ∃ v, vs[i]? = some v ∧ Rp K M H d v
  | [], _, i, _, h, e => by simp at e
  | x :: ds, _, 0, d, h, e => by
    cases h with
    | cons h1 h2 =>
      simp at e; subst e
      exact ⟨_, rfl, h1⟩
  | x :: ds, _, i + 1, d, h, e => by
    cases h with
    | cons h1 h2 =>
      obtain ⟨v, q, r⟩ := RpL.get (i := i) h2 (by simpa using e)
      exact ⟨v, by simpa using q, r⟩
theorem RpL.getV : ∀ {ds : List D} {vs : List V} {i : Nat} {v : V}, RpL K M H ds vs → vs[i]? = some v → ∃ d, ds[i]? = some d ∧ Rp K M H d v
  | [], _, i, _, h, e => by cases h; simp at e
  | x :: ds, _, 0, d, h, e => by
    cases h with
    | cons h1 h2 =>
      simp at e; subst e
      exact ⟨_, rfl, h1⟩
  | x :: ds, _, i + 1, d, h, e => by
    cases h with
    | cons h1 h2 =>
      obtain ⟨v, q, r⟩ := RpL.getV (i := i) h2 (by simpa using e)
      exact ⟨v, by simpa using q, r⟩
theorem RpL.append : ∀ {ds es : List D} {vs ws : List V}, RpL K M H ds vs → RpL K M H es ws → RpL K M H (ds ++ es) (vs ++ ws)
  | [], _, _, _, h, g => by cases h; exact g
  | d :: ds, _, _, _, h, g => by
    cases h with
    | cons h1 h2 => exact .cons h1 (RpL.append h2 g)
theorem RpL.take : ∀ {ds : List D} {vs : List V} (n : Nat), RpL K M H ds vs → RpL K M H (ds.take n) (vs.take n)
  | [], _, n, h => by cases h; simp; exact .nil
  | d :: ds, _, 0, h => by simp; exact .nil
  | d :: ds, _, n + 1, h => by
    cases h with
    | cons h1 h2 => exact .cons h1 (RpL.take n h2)
theorem RpL.drop : ∀ {ds : List D} {vs : List V} (n : Nat), RpL K M H ds vs → RpL K M H (ds.drop n) (vs.drop n)
  | [], _, n, h => by cases h; simp; exact .nil
  | d :: ds, _, 0, h => by simpa using h
  | d :: ds, _, n + 1, h => by
    cases h with
    | cons h1 h2 => exact RpL.drop n h2
theorem RpL.set {d : D} {v : V} (r : Rp K M H d v) : ∀ {ds : List D} {vs : List V} (i : Nat), RpL K M H ds vs → RpL K M H (ds.set i d) (vs.set i v)
  | [], _, i, h => by cases h; exact .nil
  | x :: ds, _, 0, h => by
    cases h with
    | cons h1 h2 => exact .cons r h2
  | x :: ds, _, i + 1, h => by
    cases h with
    | cons h1 h2 => exact .cons h1 (RpL.set r i h2)
theorem RpL.eraseIdx : ∀ {ds : List D} {vs : List V} (i : Nat), RpL K M H ds vs → RpL K M H (ds.eraseIdx i) (vs.eraseIdx i)
  | [], _, i, h => by cases h; exact .nil
  | x :: ds, _, 0, h => by
    cases h with
    | cons h1 h2 => exact h2
  | x :: ds, _, i + 1, h => by
    cases h with
    | cons h1 h2 => exact .cons h1 (RpL.eraseIdx i h2)
theorem RpL.reverse : ∀ {ds : List D} {vs : List V}, RpL K M H ds vs → RpL K M H ds.reverse vs.reverse
  | [], _, h => by cases h; exact .nil
  | x :: ds, _, h => by
    cases h with
    | cons h1 h2 =>
      simp only [List.reverse_cons]
      exact RpL.append (RpL.reverse h2) (.cons h1 .nil)
end

/-! ### environments -/
inductive Slot where
  /-- nothing is known -/
  | no
  /-- a value -/
  | v (d : D)
  /-- a mutable object of this def's own -/
  | o (d : D)
  /-- a mutable object that is a parameter -/
  | p (d : D)
  deriving Inhabited
abbrev Env := List Slot

/-- the owned object at a holds d -/
def Ow (K : PySem.W.Frag) (M : Addr → Prop) (H : Hp) : D → Addr → Prop
  | .lst ds, a => M a ∧ ds.length ≤ sizeLine ∧ ∃ vs, H a = some (.lst vs) ∧ RpL K M H ds vs
  | .dct kvs, a => M a ∧ kvs.length ≤ sizeLine ∧ ∃ ws, H a = some (.dK ws) ∧ RpK K M H kvs ws
  | _, _ => False

theorem Ow.mem {K : PySem.W.Frag} {M : Addr → Prop} {H : Hp} {d : D} {a : Addr} (h : Ow K M H d a) : M a := by
  cases d <;> first | exact h.1 | exact h.elim
theorem Ow.there {K : PySem.W.Frag} {M : Addr → Prop} {H : Hp} {d : D} {a : Addr} (h : Ow K M H d a) : ∃ o, H a = some o ∧ ¬ Imm o := by
  cases d with
  | lst ds => obtain ⟨_, _, vs, e, _⟩ := h; exact ⟨_, e, fun z => z⟩
  | dct ds => obtain ⟨_, _, vs, e, _⟩ := h; exact ⟨_, e, fun z => z⟩
  | _ => exact h.elim
/-- the object itself is as it was, what it holds is not owned -/
theorem Ow.ext {K : PySem.W.Frag} {M M' : Addr → Prop} {H H' : Hp} {d : D} {a : Addr} (x : Ext M H M' H') (hm : M' a) (he : H' a = H a) (h : Ow K M H d a) : Ow K M' H' d a := by
  cases d with
  | lst ds =>
    obtain ⟨_, l, vs, e, r⟩ := h
    exact ⟨hm, l, vs, by rw [he]; exact e, RpL.ext x r⟩
  | dct ds =>
    obtain ⟨_, l, vs, e, r⟩ := h
    exact ⟨hm, l, vs, by rw [he]; exact e, RpK.ext x r⟩
  | _ => exact h.elim

/-- where a body begins: the owned ones, the heap, the parameters that are owned -/
structure Base where
  M : Addr → Prop
  H : Hp
  pa : Nat → Option Addr
  /-- what is being made meanwhile -/
  pr : List (Addr × HO) := []
  mt : ∀ b, M b → H b ≠ none

def SlotOk (K : PySem.W.Frag) (B : Base) (M : Addr → Prop) (H : Hp) (i : Nat) : Slot → Option V → Prop
  | .no, _ => True
  | .v d, x => ∃ v, x = some v ∧ Rp K M H d v
  | .o d, x => ∃ a, x = some (.ref a) ∧ Ow K M H d a ∧ B.H a = none
  | .p d, x => ∃ a, x = some (.ref a) ∧ Ow K M H d a ∧ B.pa i = some a

def isOwn : Slot → Bool
  | .o _ => true
  | .p _ => true
  | _ => false

/-- no slot owns what stands at a -/
def Anon (ρ : Env) (σ : St) (a : Addr) : Prop := ∀ (i : Nat) (s : Slot), ρ[i]? = some s → isOwn s = true → σ[i]? ≠ some (some (V.ref a))
structure Rep (K : PySem.W.Frag) (B : Base) (M : Addr → Prop) (H : Hp) (ρ : Env) (σ : St) : Prop where
  keep : ∀ b o, B.H b = some o → (∀ i, B.pa i ≠ some b) → H b = some o
  old : ∀ b, B.H b ≠ none → H b ≠ none
  sub : ∀ b, B.M b → M b
  new : ∀ b, M b → B.M b ∨ B.H b = none
  trk : ∀ b, M b → H b ≠ none
  len : ρ.length = σ.length
  slot : ∀ (i : Nat) (s : Slot), ρ[i]? = some s → SlotOk K B M H i s (σ[i]?.join)
  apart : ∀ (i j : Nat) (s t : Slot) (a : Addr), i ≠ j → ρ[i]? = some s → ρ[j]? = some t → isOwn s = true → isOwn t = true → σ[i]? = some (some (V.ref a)) → σ[j]? = some (some (V.ref a)) → False
  pr : ∀ p ∈ B.pr, H p.1 = some p.2 ∧ M p.1 ∧ Anon ρ σ p.1

theorem SlotOk.ext {K : PySem.W.Frag} {B : Base} {M M' : Addr → Prop} {H H' : Hp} {i : Nat} {s : Slot} {x : Option V} (e : Ext M H M' H')
    (ho : ∀ a, isOwn s = true → x = some (.ref a) → M a → M' a ∧ H' a = H a) (h : SlotOk K B M H i s x) : SlotOk K B M' H' i s x := by
  cases s with
  | no => trivial
  | v d => obtain ⟨v, e1, r⟩ := h; exact ⟨v, e1, r.ext e⟩
  | o d =>
    obtain ⟨a, e1, r, n⟩ := h
    obtain ⟨m, q⟩ := ho a rfl e1 r.mem
    exact ⟨a, e1, r.ext e m q, n⟩
  | p d =>
    obtain ⟨a, e1, r, n⟩ := h
    obtain ⟨m, q⟩ := ho a rfl e1 r.mem
    exact ⟨a, e1, r.ext e m q, n⟩
theorem SlotOk.own {K : PySem.W.Frag} {B : Base} {M : Addr → Prop} {H : Hp} {i : Nat} {s : Slot} {x : Option V} (h : SlotOk K B M H i s x) (hs : isOwn s = true) :
    ∃ a d, x = some (.ref a) ∧ Ow K M H d a ∧ ((s = .o d ∧ B.H a = none) ∨ (s = .p d ∧ B.pa i = some a)) := by
  cases s with
  | no => cases hs
  | v d => cases hs
  | o d => obtain ⟨a, e1, r, n⟩ := h; exact ⟨a, d, e1, r, .inl ⟨rfl, n⟩⟩
  | p d => obtain ⟨a, e1, r, n⟩ := h; exact ⟨a, d, e1, r, .inr ⟨rfl, n⟩⟩
theorem join_of {σ : St} {i : Nat} {v : V} (h : σ[i]?.join = some v) : σ[i]? = some (some v) := by
  cases e : σ[i]? with
  | none => rw [e] at h; cases h
  | some x => rw [e] at h; cases x with
    | none => cases h
    | some y => cases h; rfl
theorem of_join {σ : St} {i : Nat} {v : V} (h : σ[i]? = some (some v)) : σ[i]?.join = some v := by rw [h]; rfl

section
variable {K : PySem.W.Frag} {B : Base} {M M' : Addr → Prop} {H H' : Hp} {ρ ρ' : Env} {σ σ' : St}
/-- the names stay, the heap changes -/
theorem Rep.change (r : Rep K B M H ρ σ) (hk : ∀ b o, B.H b = some o → (∀ i, B.pa i ≠ some b) → H b = some o → H' b = some o) (ho : ∀ b, H b ≠ none → H' b ≠ none)
    (hm : ∀ b, M b → M' b) (hn : ∀ b, M' b → M b ∨ H b = none) (ht : ∀ b, M' b → H' b ≠ none) (hl : ρ'.length = ρ.length) (hp : ∀ p ∈ B.pr, H p.1 = some p.2 → H' p.1 = some p.2)
    (hs : ∀ (i : Nat) (s' : Slot), ρ'[i]? = some s' → SlotOk K B M' H' i s' (σ[i]?.join) ∧ ∃ s, ρ[i]? = some s ∧ isOwn s' = isOwn s) : Rep K B M' H' ρ' σ where
  keep := fun b o h1 h2 => hk b o h1 h2 (r.keep b o h1 h2)
  old := fun b h => ho b (r.old b h)
  sub := fun b h => hm b (r.sub b h)
  new := fun b h => (hn b h).elim (r.new b) fun n => by
    cases q : B.H b with
    | none => exact .inr rfl
    | some o => exact absurd n (r.old b (by rw [q]; simp))
  trk := ht
  len := hl.trans r.len
  slot := fun i s h => (hs i s h).1
  apart := fun i j s t a ne h1 h2 o1 o2 => by
    obtain ⟨_, s0, e1, q1⟩ := hs i s h1
    obtain ⟨_, t0, e2, q2⟩ := hs j t h2
    exact r.apart i j s0 t0 a ne e1 e2 (q1 ▸ o1) (q2 ▸ o2)
  pr := fun p hm2 => by
    obtain ⟨h1, h2, h3⟩ := r.pr p hm2
    refine ⟨hp p hm2 h1, hm _ h2, fun i s hi ho => ?_⟩
    obtain ⟨_, s0, e1, q1⟩ := hs i s hi
    exact h3 i s0 e1 (q1 ▸ ho)
/-- the heap has grown, nothing that was owned is changed -/
theorem Rep.grow (r : Rep K B M H ρ σ) (e : Ext M H M' H') (hs : ∀ b o, H b = some o → H' b = some o) (hm : ∀ b, M b → M' b) (hn : ∀ b, M' b → M b ∨ H b = none) (ht : ∀ b, M' b → H' b ≠ none) : Rep K B M' H' ρ σ :=
  r.change (fun b o _ _ q => hs b o q) (fun b h => by
    cases q : H b with
    | none => exact absurd q h
    | some o => rw [hs b o q]; simp) hm hn ht rfl (fun p _ q => hs _ _ q) fun i s h => ⟨(r.slot i s h).ext e fun a _ _ m => ⟨hm a m, by
      cases q : H a with
      | none => exact absurd q (r.trk a m)
      | some o => exact hs a o q⟩, s, h, rfl⟩
/-- a new object, not owned -/
theorem Rep.alloc (r : Rep K B M H ρ σ) {p : Addr} {o : HO} (hp : H p = none) : Rep K B M (upd H p o) ρ σ :=
  r.grow (Ext.new hp) (fun b u e => by rw [upd_ne (ne_of_none e hp)]; exact e) (fun _ h => h) (fun _ h => .inl h) fun b h z => by
    have n := r.trk b h
    by_cases e : b = p
    · rw [e] at n; exact n hp
    · rw [upd_ne e] at z; exact n z
/-- a new object, owned -/
theorem Rep.allocO (r : Rep K B M H ρ σ) {p : Addr} {o : HO} (hp : H p = none) : Rep K B (fun b => M b ∨ b = p) (upd H p o) ρ σ :=
  r.grow (Ext.newO hp) (fun b u e => by rw [upd_ne (ne_of_none e hp)]; exact e) (fun _ h => .inl h) (fun b h => h.imp id fun e => by rw [e]; exact hp) fun b h z => by
    by_cases e : b = p
    · rw [e, upd_same] at z; cases z
    · rw [upd_ne e] at z
      exact h.elim (fun q => r.trk b q z) e
theorem Rep.own_ne (r : Rep K B M H ρ σ) {i : Nat} {s : Slot} {a p : Addr} (_h : ρ[i]? = some s) (_o : isOwn s = true) (hv : σ[i]? = some (some (V.ref a))) (hp : H p = none) : a ≠ p := fun e => by
  obtain ⟨a', d, e1, w, _⟩ := (r.slot i s _h).own _o
  rw [of_join hv] at e1
  cases e1
  obtain ⟨o, q, _⟩ := w.there
  rw [e, hp] at q
  cases q
/-- the same kind of slot, another content -/
def reSlot (s : Slot) (d' : D) : Slot := match s with
  | .p _ => .p d'
  | _ => .o d'
/-- the owned object of slot i is written -/
theorem Rep.mutate (r : Rep K B M H ρ σ) {i : Nat} {s s' : Slot} {a : Addr} {u : HO} {d' : D} (hi : ρ[i]? = some s) (ho : isOwn s = true) (hv : σ[i]? = some (some (V.ref a)))
    (hw : Ow K M (upd H a u) d' a) (hs : s' = reSlot s d') : Rep K B M (upd H a u) (ρ.set i s') σ := by
  obtain ⟨a', d, e1, w, k⟩ := (r.slot i s hi).own ho
  rw [of_join hv] at e1
  cases e1
  obtain ⟨o0, q0, im⟩ := w.there
  have hx : Ext M H M (upd H a u) := Ext.write w.mem q0 im
  refine r.change (fun b o h1 h2 h3 => ?_) (fun b h => ?_) (fun _ h => h) (fun _ h => .inl h) (fun b h => ?_) (by simp) (fun p hp q => ?_) fun j t hj => ?_
  · have nb : b ≠ a := fun e => by
      subst e
      rcases k with ⟨_, k⟩ | ⟨_, k⟩
      · rw [k] at h1; cases h1
      · exact h2 i k
    rw [upd_ne nb]; exact h3
  · by_cases e : b = a
    · rw [e, upd_same]; simp
    · rw [upd_ne e]; exact h
  · by_cases e : b = a
    · rw [e, upd_same]; simp
    · rw [upd_ne e]; exact r.trk b h
  · rw [upd_ne fun e => (r.pr p hp).2.2 i s hi ho (by rw [e]; exact hv)]
    exact q
  · by_cases e : j = i
    · subst e
      have hlt : j < ρ.length := (List.getElem?_eq_some_iff.mp hi).1
      rw [List.getElem?_set_self hlt] at hj
      cases hj
      refine ⟨?_, s, hi, ?_⟩
      · rw [of_join hv]
        rcases k with ⟨rfl, k⟩ | ⟨rfl, k⟩
        · subst hs; exact ⟨a, rfl, hw, k⟩
        · subst hs; exact ⟨a, rfl, hw, k⟩
      · rcases k with ⟨rfl, k⟩ | ⟨rfl, k⟩ <;> (subst hs; rfl)
    · rw [List.getElem?_set_ne (Ne.symm e)] at hj
      refine ⟨(r.slot j t hj).ext hx fun b ot hb mb => ⟨mb, ?_⟩, t, hj, rfl⟩
      have nb : b ≠ a := fun q => by
        subst q
        exact r.apart i j s t b (Ne.symm e) hi hj ho ot hv (join_of hb)
      exact upd_ne nb
/-- a name is stored -/
theorem Rep.setV (r : Rep K B M H ρ σ) (i : Nat) {d : D} {v : V} (h : Rp K M H d v) : Rep K B M H (ρ.set i (.v d)) (σ.set i (some v)) where
  keep := r.keep
  old := r.old
  sub := r.sub
  new := r.new
  trk := r.trk
  len := by simp [r.len]
  slot := fun j s hj => by
    by_cases e : j = i
    · subst e
      by_cases hlt : j < ρ.length
      · rw [List.getElem?_set_self hlt] at hj
        cases hj
        rw [List.getElem?_set_self (r.len ▸ hlt)]
        exact ⟨v, rfl, h⟩
      · rw [List.getElem?_eq_none (by simpa using hlt)] at hj; cases hj
    · rw [List.getElem?_set_ne (Ne.symm e)] at hj ⊢
      exact r.slot j s hj
  apart := fun j k s t a ne h1 h2 o1 o2 v1 v2 => by
    by_cases e : j = i
    · subst e
      by_cases hlt : j < ρ.length
      · rw [List.getElem?_set_self hlt] at h1; cases h1; cases o1
      · rw [List.getElem?_eq_none (by simpa using hlt)] at h1; cases h1
    · by_cases e' : k = i
      · subst e'
        by_cases hlt : k < ρ.length
        · rw [List.getElem?_set_self hlt] at h2; cases h2; cases o2
        · rw [List.getElem?_eq_none (by simpa using hlt)] at h2; cases h2
      · rw [List.getElem?_set_ne (Ne.symm e)] at h1 v1
        rw [List.getElem?_set_ne (Ne.symm e')] at h2 v2
        exact r.apart j k s t a ne h1 h2 o1 o2 v1 v2
  pr := fun p hp => by
    obtain ⟨h1, h2, h3⟩ := r.pr p hp
    refine ⟨h1, h2, fun j s hj ho => ?_⟩
    by_cases e : j = i
    · subst e
      by_cases hlt : j < ρ.length
      · rw [List.getElem?_set_self hlt] at hj; cases hj; cases ho
      · rw [List.getElem?_eq_none (by simpa using hlt)] at hj; cases hj
    · rw [List.getElem?_set_ne (Ne.symm e)] at hj ⊢
      exact h3 j s hj ho
theorem Rep.setO (r : Rep K B M H ρ σ) (i : Nat) {d : D} {a : Addr} (h : Ow K M H d a) (hb : B.H a = none) (an : Anon ρ σ a) (np : ∀ p ∈ B.pr, p.1 ≠ a) : Rep K B M H (ρ.set i (.o d)) (σ.set i (some (V.ref a))) where
  keep := r.keep
  old := r.old
  sub := r.sub
  new := r.new
  trk := r.trk
  len := by simp [r.len]
  slot := fun j s hj => by
    by_cases e : j = i
    · subst e
      by_cases hlt : j < ρ.length
      · rw [List.getElem?_set_self hlt] at hj
        cases hj
        rw [List.getElem?_set_self (r.len ▸ hlt)]
        exact ⟨a, rfl, h, hb⟩
      · rw [List.getElem?_eq_none (by simpa using hlt)] at hj; cases hj
    · rw [List.getElem?_set_ne (Ne.symm e)] at hj ⊢
      exact r.slot j s hj
  apart := fun j k s t b ne h1 h2 o1 o2 v1 v2 => by
    by_cases e : j = i
    · subst e
      by_cases hlt : j < ρ.length
      · rw [List.getElem?_set_self (r.len ▸ hlt)] at v1
        cases v1
        rw [List.getElem?_set_ne ne] at h2 v2
        exact an k t h2 o2 v2
      · rw [List.getElem?_eq_none (by simpa using hlt)] at h1; cases h1
    · by_cases e' : k = i
      · subst e'
        by_cases hlt : k < ρ.length
        · rw [List.getElem?_set_self (r.len ▸ hlt)] at v2
          cases v2
          rw [List.getElem?_set_ne (Ne.symm e)] at h1 v1
          exact an j s h1 o1 v1
        · rw [List.getElem?_eq_none (by simpa using hlt)] at h2; cases h2
      · rw [List.getElem?_set_ne (Ne.symm e)] at h1 v1
        rw [List.getElem?_set_ne (Ne.symm e')] at h2 v2
        exact r.apart j k s t b ne h1 h2 o1 o2 v1 v2
  pr := fun p hp => by
    obtain ⟨h1, h2, h3⟩ := r.pr p hp
    refine ⟨h1, h2, fun j s hj ho hv => ?_⟩
    by_cases e : j = i
    · subst e
      by_cases hlt : j < ρ.length
      · rw [List.getElem?_set_self (r.len ▸ hlt)] at hv
        cases hv
        exact np p hp rfl
      · rw [List.getElem?_eq_none (by simpa using hlt)] at hj; cases hj
    · rw [List.getElem?_set_ne (Ne.symm e)] at hj hv
      exact h3 j s hj ho hv
/-- forgetting a slot -/
theorem Rep.setNo (r : Rep K B M H ρ σ) (i : Nat) (x : Option V) : Rep K B M H (ρ.set i .no) (σ.set i x) where
  keep := r.keep
  old := r.old
  sub := r.sub
  new := r.new
  trk := r.trk
  len := by simp [r.len]
  slot := fun j s hj => by
    by_cases e : j = i
    · subst e
      by_cases hlt : j < ρ.length
      · rw [List.getElem?_set_self hlt] at hj
        cases hj
        trivial
      · rw [List.getElem?_eq_none (by simpa using hlt)] at hj; cases hj
    · rw [List.getElem?_set_ne (Ne.symm e)] at hj ⊢
      exact r.slot j s hj
  apart := fun j k s t a ne h1 h2 o1 o2 v1 v2 => by
    by_cases e : j = i
    · subst e
      by_cases hlt : j < ρ.length
      · rw [List.getElem?_set_self hlt] at h1; cases h1; cases o1
      · rw [List.getElem?_eq_none (by simpa using hlt)] at h1; cases h1
    · by_cases e' : k = i
      · subst e'
        by_cases hlt : k < ρ.length
        · rw [List.getElem?_set_self hlt] at h2; cases h2; cases o2
        · rw [List.getElem?_eq_none (by simpa using hlt)] at h2; cases h2
      · rw [List.getElem?_set_ne (Ne.symm e)] at h1 v1
        rw [List.getElem?_set_ne (Ne.symm e')] at h2 v2
        exact r.apart j k s t a ne h1 h2 o1 o2 v1 v2
  pr := fun p hp => by
    obtain ⟨h1, h2, h3⟩ := r.pr p hp
    refine ⟨h1, h2, fun j s hj ho => ?_⟩
    by_cases e : j = i
    · subst e
      by_cases hlt : j < ρ.length
      · rw [List.getElem?_set_self hlt] at hj; cases hj; cases ho
      · rw [List.getElem?_eq_none (by simpa using hlt)] at hj; cases hj
    · rw [List.getElem?_set_ne (Ne.symm e)] at hj ⊢
      exact h3 j s hj ho
/-- what is owned by no slot and was made here is owned no more -/
theorem Rep.drop (r : Rep K B M H ρ σ) {a : Addr} (hb : B.H a = none) (an : Anon ρ σ a) (np : ∀ p ∈ B.pr, p.1 ≠ a) : Rep K B (fun b => M b ∧ b ≠ a) H ρ σ where
  keep := r.keep
  old := r.old
  sub := fun b h => ⟨r.sub b h, fun e => by subst e; exact B.mt b h hb⟩
  new := fun b h => r.new b h.1
  trk := fun b h => r.trk b h.1
  len := r.len
  slot := fun i s h => (r.slot i s h).ext (Ext.sub fun _ z => z.1) fun b o e m => ⟨⟨m, fun z => by subst z; exact an i s h o (join_of e)⟩, rfl⟩
  apart := r.apart
  pr := fun p hp => ⟨(r.pr p hp).1, ⟨(r.pr p hp).2.1, np p hp⟩, (r.pr p hp).2.2⟩
/-- slot i is owned no more: its object is a value from now on -/
theorem Rep.frz (r : Rep K B M H ρ σ) {i : Nat} {d : D} (hi : ρ[i]? = some (.o d)) : ∃ M', (∀ b, M' b → M b) ∧ Rep K B M' H (ρ.set i (.v d)) σ := by
  obtain ⟨a, e1, w, nb⟩ := r.slot i _ hi
  have hv := join_of e1
  have an : Anon (ρ.set i .no) (σ.set i (some (V.ref a))) a := fun j s hj ho hv' => by
    by_cases e : j = i
    · subst e
      rw [List.getElem?_set_self (List.getElem?_eq_some_iff.mp hi).1] at hj
      cases hj; cases ho
    · rw [List.getElem?_set_ne (Ne.symm e)] at hj hv'
      exact r.apart j i s _ a e hj hi ho rfl hv' hv
  have r2 := (r.setNo i (some (V.ref a))).drop nb an fun p hp z => (r.pr p hp).2.2 i _ hi rfl (by rw [z]; exact hv)
  have es : σ.set i (some (V.ref a)) = σ := by
    apply List.ext_getElem?
    intro j
    by_cases e : j = i
    · subst e
      rw [List.getElem?_set_self (List.getElem?_eq_some_iff.mp hv).1, hv]
    · rw [List.getElem?_set_ne (Ne.symm e)]
  have rp : Rp K (fun b => M b ∧ b ≠ a) H d (.ref a) := by
    have x : Ext M H (fun b => M b ∧ b ≠ a) H := Ext.sub fun _ z => z.1
    cases d with
    | lst ds => obtain ⟨_, l, vs, e, q⟩ := w; exact .lst l (fun z => z.2 rfl) e (RpL.ext x q)
    | dct ds => obtain ⟨_, l, vs, e, q⟩ := w; exact .dct l (fun z => z.2 rfl) e (RpK.ext x q)
    | _ => exact w.elim
  have r3 := r2.setV i rp
  rw [List.set_set, List.set_set, es] at r3
  exact ⟨_, fun b z => z.1, r3⟩
end
end NV

set_option Elab.async false
set_option linter.all false
set_option maxRecDepth 100000
set_option maxHeartbeats 4000000
/-! Core2: what a piece of syntax does, as a plain function of the environment. -/
namespace NV
open PySem PySem.Spec PyProof.Rows L2

structure Exn where
  cls : Str
  fs : List D := []

inductive Res (α : Type) where
  | ok (a : α) (ρ : Env)
  | exc (x : Exn) (ρ : Env)
  /-- nothing is told -/
  | bad
def Res.bind {α β : Type} : Res α → (α → Env → Res β) → Res β
  | .ok a ρ, f => f a ρ
  | .exc x ρ, _ => .exc x ρ
  | .bad, _ => .bad
theorem bind_ok {α β : Type} (a : α) (ρ : Env) (f : α → Env → Res β) : (Res.ok a ρ).bind f = f a ρ := rfl
theorem bind_exc {α β : Type} (x : Exn) (ρ : Env) (f : α → Env → Res β) : (Res.exc x ρ).bind f = .exc x ρ := rfl
theorem bind_bad {α β : Type} (f : α → Env → Res β) : (Res.bad).bind f = .bad := rfl
def ofO {α : Type} (o : Option α) (ρ : Env) : Res α := match o with
  | some a => .ok a ρ
  | none => .bad
theorem ofO_some {α : Type} (a : α) (ρ : Env) : ofO (some a) ρ = .ok a ρ := rfl
theorem ofO_none {α : Type} (ρ : Env) : ofO (none : Option α) ρ = .bad := rfl

/-- an operand: a value, or the owned object of a slot, read late -/
inductive RV where
  | val (d : D)
  | own (i : Nat)
def RV.get (ρ : Env) : RV → Option D
  | .val x => some x
  | .own i => match ρ[i]? with
    | some (.o d) => some d
    | some (.p d) => some d
    | _ => none
theorem get_d (ρ : Env) (d : D) : (RV.val d).get ρ = some d := rfl

abbrev EM := Env → Res D
abbrev RM := Env → Res RV
abbrev TM := Env → Res Bool
abbrev AM := Env → Res (List RV)

def ExR (K : PySem.W.Frag) (mg : Str → Option Value) (M : Addr → Prop) (H : Hp) (x : Exn) (c : Value) (dx : Option Addr) : Prop :=
  ∃ C, mg x.cls = some (Value.ref C) ∧ c = .ref C ∧ match x.fs with
    | [] => dx = none
    | [d] => ∃ a v, dx = some a ∧ H a = some (.xd [("row", v)]) ∧ Rp K M H d v
    | _ => False

section
variable {α β γ δ : Type}
/-- what must hold behind a result -/
def Post (X : Cx) (B : Base) (W : WX) (R : (Addr → Prop) → Hp → Env → α → β → Prop) (M : Addr → Prop) (H : Hp) (σ : St) (r : Res α) (Q : β → Hp → Prop) : Prop := match r with
  | .ok a ρ' => ∀ (M' : Addr → Prop) (H' : Hp) (b : β), Ext M H M' H' → Rep X.K B M' H' ρ' σ → R M' H' ρ' a b → Q b H'
  | .exc x ρ' => ∀ (M' : Addr → Prop) (H' : Hp) (c : Value) (dx : Option Addr), Ext M H M' H' → Rep X.K B M' H' ρ' σ → ExR X.K X.mg M' H' x c dx → W c dx σ H'
  | .bad => False
variable {X : Cx} {B : Base} {W : WX} {M M' : Addr → Prop} {H H' : Hp} {σ : St} {R : (Addr → Prop) → Hp → Env → α → β → Prop} {R2 : (Addr → Prop) → Hp → Env → γ → δ → Prop}
theorem Post.shift {r : Res α} {Q : β → Hp → Prop} (e : Ext M H M' H') (h : Post X B W R M H σ r Q) : Post X B W R M' H' σ r Q := by
  cases r with
  | ok a ρ => exact fun M2 H2 b e2 r2 q => h M2 H2 b (e.trans e2) r2 q
  | exc x ρ => exact fun M2 H2 c dx e2 r2 q => h M2 H2 c dx (e.trans e2) r2 q
  | bad => exact h
/-- in a row -/
theorem Post.seq {r : Res α} {f : α → Env → Res γ} {Q : δ → Hp → Prop} {Q1 : β → Hp → Prop} (h : Post X B W R2 M H σ (r.bind f) Q)
    (k : ∀ a ρ' M' H' b, Ext M H M' H' → Rep X.K B M' H' ρ' σ → R M' H' ρ' a b → Post X B W R2 M' H' σ (f a ρ') Q → Q1 b H') : Post X B W R M H σ r Q1 := by
  cases r with
  | ok a ρ => exact fun M2 H2 b e2 r2 q => k a ρ M2 H2 b e2 r2 q (Post.shift e2 h)
  | exc x ρ => exact h
  | bad => exact h
theorem Post.imp {R' : (Addr → Prop) → Hp → Env → α → β → Prop} {r : Res α} {Q Q' : β → Hp → Prop} (h : Post X B W R M H σ r Q)
    (k : ∀ a ρ' M' H' b, r = .ok a ρ' → Ext M H M' H' → Rep X.K B M' H' ρ' σ → R' M' H' ρ' a b → (∀ (M2 : Addr → Prop) (H2 : Hp) (b : β), Ext M H M2 H2 → Rep X.K B M2 H2 ρ' σ → R M2 H2 ρ' a b → Q b H2) → Q' b H') : Post X B W R' M H σ r Q' := by
  cases r with
  | ok a ρ => exact fun M2 H2 b e2 r2 q => k a ρ M2 H2 b rfl e2 r2 q h
  | exc x ρ => exact h
  | bad => exact h
end

abbrev RelE (K : PySem.W.Frag) : (Addr → Prop) → Hp → Env → D → V → Prop := fun M H _ d v => Rp K M H d v
def RelR (K : PySem.W.Frag) (σ : St) : (Addr → Prop) → Hp → Env → RV → V → Prop := fun M H _ r v => match r with
  | .val d => Rp K M H d v
  | .own i => σ[i]? = some (some v)
abbrev RelF (K : PySem.W.Frag) (B : Base) (σ : St) : (Addr → Prop) → Hp → Env → D → V → Prop := fun M H ρ d v => ∃ a, v = .ref a ∧ Ow K M H d a ∧ B.H a = none ∧ Anon ρ σ a ∧ ∀ p ∈ B.pr, p.1 ≠ a
abbrev RelT : (Addr → Prop) → Hp → Env → Bool → Bool → Prop := fun _ _ _ a b => a = b
def RelA (K : PySem.W.Frag) (σ : St) : (Addr → Prop) → Hp → Env → List RV → List V → Prop := fun M H ρ rs vs => Paired (fun r v => RelR K σ M H ρ r v) rs vs

/-- a reading is served by a function -/
def Sat {α β : Type} (X : Cx) (W : WX) (R : Base → St → (Addr → Prop) → Hp → Env → α → β → Prop) (t : St → Hp → (β → Hp → Prop) → Prop) (m : Env → Res α) : Prop :=
  ∀ (B : Base) (M : Addr → Prop) (H : Hp) (ρ : Env) (σ : St) (Q : β → Hp → Prop), Rep X.K B M H ρ σ → Post X B W (R B σ) M H σ (m ρ) Q → t σ H Q
def DE (X : Cx) (W : WX) (e : Expr) (m : EM) : Prop := ∃ t, PE X e t ∧ Sat X W (fun _ _ => RelE X.K) t m
def DR (X : Cx) (W : WX) (e : Expr) (m : RM) : Prop := ∃ t, PE X e t ∧ Sat X W (fun _ σ => RelR X.K σ) t m
def DF (X : Cx) (W : WX) (e : Expr) (m : EM) : Prop := ∃ t, PE X e t ∧ Sat X W (fun B σ => RelF X.K B σ) t m
def DT (X : Cx) (W : WX) (e : Expr) (m : TM) : Prop := ∃ t, PT X e t ∧ Sat X W (fun _ _ => RelT) t m
def DW (X : Cx) (W : WX) (e : Expr) (m : TM) : Prop := ∃ t, PW X e t ∧ Sat X W (fun _ _ => RelT) t m
def DA (X : Cx) (W : WX) (es : List Expr) (m : AM) : Prop := ∃ t, PA X es t ∧ Sat X W (fun _ σ => RelA X.K σ) t m

/-! ### coercions -/
theorem Ow.rp {K : PySem.W.Frag} {M : Addr → Prop} {H : Hp} {d : D} {a : Addr} (w : Ow K M H d a) : Rp K (fun b => M b ∧ b ≠ a) H d (.ref a) := by
  have x : Ext M H (fun b => M b ∧ b ≠ a) H := Ext.sub fun _ z => z.1
  cases d with
  | lst ds => obtain ⟨_, l, vs, e, q⟩ := w; exact .lst l (fun z => z.2 rfl) e (RpL.ext x q)
  | dct ds => obtain ⟨_, l, vs, e, q⟩ := w; exact .dct l (fun z => z.2 rfl) e (RpK.ext x q)
  | _ => exact w.elim

section
variable {X : Cx} {W : WX} {e : Expr} {es : List Expr}
/-- what is new is a value -/
theorem de_f {m : EM} (h : DF X W e m) : DE X W e m := by
  obtain ⟨t, ht, hs⟩ := h
  refine ⟨t, ht, fun B M H ρ σ Q r h => hs B M H ρ σ Q r (h.imp fun a ρ' M' H' b er x r' ⟨p, eb, w, hb, an, np⟩ k => ?_)⟩
  subst eb
  exact k _ H' _ (x.trans (Ext.sub fun _ z => z.1)) (r'.drop hb an np) w.rp
def rOf (m : EM) : RM := fun ρ => (m ρ).bind fun d ρ' => .ok (.val d) ρ'
theorem dr_e {m : EM} (h : DE X W e m) : DR X W e (rOf m) := by
  obtain ⟨t, ht, hs⟩ := h
  refine ⟨t, ht, fun B M H ρ σ Q r h => hs B M H ρ σ Q r (Post.seq h fun a ρ' M' H' b x r' q k => ?_)⟩
  exact k M' H' b Ext.refl r' q
theorem dr_f {m : EM} (h : DF X W e m) : DR X W e (rOf m) := dr_e (de_f h)
theorem dt_w {m : TM} (h : DW X W e m) : DT X W e m := by
  obtain ⟨t, ht, hs⟩ := h
  exact ⟨t, ht.pt, hs⟩

/-! ### names, constants -/
def rVar (i : Nat) : RM := fun ρ => match ρ[i]? with
  | some (.v d) => .ok (.val d) ρ
  | some (.o _) => .ok (.own i) ρ
  | some (.p _) => .ok (.own i) ρ
  | _ => .bad
def eVar (i : Nat) : EM := fun ρ => match ρ[i]? with
  | some (.v d) => .ok d ρ
  | _ => .bad
theorem dr_var {i : Nat} {x : Str} {pos : Pos} (h : PE X (.Name x pos) (tVar i)) : DR X W (.Name x pos) (rVar i) := by
  refine ⟨_, h, fun B M H ρ σ Q r h => ?_⟩
  unfold rVar at h
  cases e : ρ[i]? with
  | none => rw [e] at h; exact h.elim
  | some s =>
    rw [e] at h
    have q := r.slot i s e
    cases s with
    | no => exact h.elim
    | v d =>
      obtain ⟨v, e1, rp⟩ := q
      exact ⟨v, join_of e1, h M H v Ext.refl r rp⟩
    | o d =>
      obtain ⟨a, e1, _⟩ := q
      exact ⟨_, join_of e1, h M H _ Ext.refl r (join_of e1)⟩
    | p d =>
      obtain ⟨a, e1, _⟩ := q
      exact ⟨_, join_of e1, h M H _ Ext.refl r (join_of e1)⟩
theorem de_var {i : Nat} {x : Str} {pos : Pos} (h : PE X (.Name x pos) (tVar i)) : DE X W (.Name x pos) (eVar i) := by
  refine ⟨_, h, fun B M H ρ σ Q r h => ?_⟩
  unfold eVar at h
  cases e : ρ[i]? with
  | none => rw [e] at h; exact h.elim
  | some s =>
    rw [e] at h
    have q := r.slot i s e
    cases s with
    | v d =>
      obtain ⟨v, e1, rp⟩ := q
      exact ⟨v, join_of e1, h M H v Ext.refl r rp⟩
    | _ => exact h.elim
def eC (d : D) : EM := fun ρ => .ok d ρ
theorem de_c {d : D} {v : V} (h : PE X e (tC v)) (r : ∀ M H, Rp X.K M H d v) : DE X W e (eC d) :=
  ⟨_, h, fun B M H ρ σ Q rp h => h M H v Ext.refl rp (r M H)⟩
theorem de_int {i j pos} : DE X W (.Constant (.int i) j pos) (eC (.int i)) := de_c pe_int fun _ _ => .int i
theorem de_bl {i j pos} : DE X W (.Constant (.bool i) j pos) (eC (.bl i)) := de_c pe_bl fun _ _ => .bl i
theorem de_non {j pos} : DE X W (.Constant .none j pos) (eC .non) := de_c pe_non fun _ _ => .non
theorem de_str {x j pos} (g : decide (x.length ≤ sizeLine) && PySem.PyData.strOk x = true := by decide +kernel) : DE X W (.Constant (.str x) j pos) (eC (.str x)) := de_c pe_str fun _ _ => .str (by
  rw [Bool.and_eq_true] at g
  exact ⟨of_decide_eq_true g.1, by simpa using g.2⟩)

/-! ### what an operand reads -/
def Rq (K : PySem.W.Frag) (M : Addr → Prop) (H : Hp) (d : D) (v : V) : Prop := match d with
  | .lst ds => ds.length ≤ sizeLine ∧ ∃ a vs, v = .ref a ∧ H a = some (.lst vs) ∧ RpL K M H ds vs
  | .dct kvs => kvs.length ≤ sizeLine ∧ ∃ a ws, v = .ref a ∧ H a = some (.dK ws) ∧ RpK K M H kvs ws
  | d => Rp K M H d v
theorem Rp.rq {K : PySem.W.Frag} {M : Addr → Prop} {H : Hp} {d : D} {v : V} (h : Rp K M H d v) : Rq K M H d v := by
  cases d with
  | lst ds => cases h with
    | lst l n h1 h2 => exact ⟨l, _, _, rfl, h1, h2⟩
  | dct ds => cases h with
    | dct l n h1 h2 => exact ⟨l, _, _, rfl, h1, h2⟩
  | _ => exact h
theorem Ow.rq {K : PySem.W.Frag} {M : Addr → Prop} {H : Hp} {d : D} {a : Addr} (h : Ow K M H d a) : Rq K M H d (.ref a) := by
  cases d with
  | lst ds => obtain ⟨_, l, vs, e, q⟩ := h; exact ⟨l, a, vs, rfl, e, q⟩
  | dct ds => obtain ⟨_, l, vs, e, q⟩ := h; exact ⟨l, a, vs, rfl, e, q⟩
  | _ => exact h.elim
theorem RelR.rq {B : Base} {M M' : Addr → Prop} {H H' : Hp} {ρ ρ' : Env} {σ : St} {r : RV} {v : V} {d : D} (h : RelR X.K σ M H ρ r v) (x : Ext M H M' H') (rp : Rep X.K B M' H' ρ' σ) (g : r.get ρ' = some d) : Rq X.K M' H' d v := by
  cases r with
  | val d' =>
    cases g
    exact (Rp.ext x h).rq
  | own i =>
    have hv : σ[i]? = some (some v) := h
    cases e : ρ'[i]? with
    | none => simp only [RV.get, e] at g; cases g
    | some s =>
      have q := rp.slot i s e
      simp only [RV.get, e] at g
      cases s with
      | no => cases g
      | v d => cases g
      | o d' =>
        cases g
        obtain ⟨a, e1, w, _⟩ := q
        rw [of_join hv] at e1
        cases e1
        exact w.rq
      | p d' =>
        cases g
        obtain ⟨a, e1, w, _⟩ := q
        rw [of_join hv] at e1
        cases e1
        exact w.rq
/-- an operand's value -/
def rGet (x : RV) : EM := fun ρ => ofO (x.get ρ) ρ

/-! ### operators -/
/-- what an operator's rule asks is served by f (its answer a value) -/
def OpE (X : Cx) (f : D → D → Option D) (r : R2) : Prop :=
  ∀ (B : Base) (W : WX) (M : Addr → Prop) (H : Hp) (ρ : Env) (σ : St) (d e z : D) (x y : V) (Q : V → Hp → Prop), Rep X.K B M H ρ σ → Rq X.K M H d x → Rq X.K M H e y → f d e = some z →
    Post X B W (RelE X.K) M H σ (.ok z ρ) Q → r x y H Q
/-- .. its answer a new object -/
def OpF (X : Cx) (f : D → D → Option D) (r : R2) : Prop :=
  ∀ (B : Base) (W : WX) (M : Addr → Prop) (H : Hp) (ρ : Env) (σ : St) (d e z : D) (x y : V) (Q : V → Hp → Prop), Rep X.K B M H ρ σ → Rq X.K M H d x → Rq X.K M H e y → f d e = some z →
    Post X B W (RelF X.K B σ) M H σ (.ok z ρ) Q → r x y H Q
def eOp2 (f : D → D → Option D) (ma mb : RM) : EM := fun ρ => (ma ρ).bind fun x ρ1 => (mb ρ1).bind fun y ρ2 => (ofO (x.get ρ2) ρ2).bind fun d _ => (ofO (y.get ρ2) ρ2).bind fun e _ => ofO (f d e) ρ2
section
variable {a b c : Expr} {ma mb mc : RM} {f g : D → D → Option D} {r r' : R2} {op : Operator} {cop cop' : CmpOp} {pos : Pos}
theorem op2_sat {ta tb : TE} {R : Base → St → (Addr → Prop) → Hp → Env → D → V → Prop} (sa : Sat X W (fun _ σ => RelR X.K σ) ta ma) (sb : Sat X W (fun _ σ => RelR X.K σ) tb mb)
    (h : ∀ (B : Base) (M : Addr → Prop) (H : Hp) (ρ : Env) (σ : St) (d e z : D) (x y : V) (Q : V → Hp → Prop), Rep X.K B M H ρ σ → Rq X.K M H d x → Rq X.K M H e y → f d e = some z → Post X B W (R B σ) M H σ (.ok z ρ) Q → r x y H Q) :
    Sat X W R (tOp r ta tb) (eOp2 f ma mb) := by
  intro B M H ρ σ Q rp k
  refine sa B M H ρ σ _ rp (Post.seq k fun x ρ1 M1 H1 v x1 r1 q1 k1 => ?_)
  refine sb B M1 H1 ρ1 σ _ r1 (Post.seq k1 fun y ρ2 M2 H2 w x2 r2 q2 k2 => ?_)
  cases ex : x.get ρ2 with
  | none => rw [ex] at k2; exact k2.elim
  | some d =>
    rw [ex] at k2
    cases ey : y.get ρ2 with
    | none => rw [ey] at k2; exact k2.elim
    | some e =>
      rw [ey] at k2
      cases ez : f d e with
      | none => simp only [ofO, Res.bind, ez] at k2; exact k2.elim
      | some z =>
        simp only [ofO, Res.bind, ez] at k2
        exact h B M2 H2 ρ2 σ d e z v w Q r2 (q1.rq x2 r2 ex) (q2.rq Ext.refl r2 ey) ez k2
theorem de_op (hr : OpR X (binaryOp op) r) (ho : OpE X f r) (ha : DR X W a ma) (hb : DR X W b mb) : DE X W (.BinOp a op b pos) (eOp2 f ma mb) := by
  obtain ⟨ta, pa, sa⟩ := ha
  obtain ⟨tb, pb, sb⟩ := hb
  exact ⟨_, pe_op hr pa pb, op2_sat sa sb fun B M H ρ σ d e z x y Q h1 h2 h3 h4 h5 => ho B W M H ρ σ d e z x y Q h1 h2 h3 h4 h5⟩
theorem df_op (hr : OpR X (binaryOp op) r) (ho : OpF X f r) (ha : DR X W a ma) (hb : DR X W b mb) : DF X W (.BinOp a op b pos) (eOp2 f ma mb) := by
  obtain ⟨ta, pa, sa⟩ := ha
  obtain ⟨tb, pb, sb⟩ := hb
  exact ⟨_, pe_op hr pa pb, op2_sat sa sb fun B M H ρ σ d e z x y Q h1 h2 h3 h4 h5 => ho B W M H ρ σ d e z x y Q h1 h2 h3 h4 h5⟩
theorem de_cmp (hr : OpR X (compareOp cop) r) (ho : OpE X f r) (ha : DR X W a ma) (hb : DR X W b mb) (hm : behindInMarks cop b = false) : DE X W (.Compare a [cop] [b] pos) (eOp2 f ma mb) := by
  obtain ⟨ta, pa, sa⟩ := ha
  obtain ⟨tb, pb, sb⟩ := hb
  exact ⟨_, pe_cmpR hr pa pb hm, op2_sat sa sb fun B M H ρ σ d e z x y Q h1 h2 h3 h4 h5 => ho B W M H ρ σ d e z x y Q h1 h2 h3 h4 h5⟩
/-- a truth -/
def asB (d : D) (ρ : Env) : Res Bool := match d with
  | .bl b => .ok b ρ
  | _ => .bad
theorem asB_bl (b : Bool) (ρ : Env) : asB (.bl b) ρ = .ok b ρ := rfl
def tOfE (m : EM) : TM := fun ρ => (m ρ).bind asB
theorem test_sat {te : TE} {m : EM} (h : Sat X W (fun _ _ => RelE X.K) te m) : Sat X W (fun _ _ => RelT) (tTest te) (tOfE m) := by
  intro B M H ρ σ Q rp k
  refine h B M H ρ σ _ rp (Post.seq k fun d ρ1 M1 H1 v x1 r1 q1 k1 => ?_)
  cases d with
  | bl b =>
    cases q1
    exact ⟨b, rfl, k1 M1 H1 b Ext.refl r1 rfl⟩
  | _ => exact k1.elim
theorem dt_cmp (hr : OpR X (compareOp cop) r) (ho : OpE X f r) (ha : DR X W a ma) (hb : DR X W b mb) (hm : behindInMarks cop b = false) : DT X W (.Compare a [cop] [b] pos) (tOfE (eOp2 f ma mb)) := by
  obtain ⟨ta, pa, sa⟩ := ha
  obtain ⟨tb, pb, sb⟩ := hb
  exact ⟨_, pt_cmpR hr pa pb hm, test_sat (op2_sat sa sb fun B M H ρ σ d e z x y Q h1 h2 h3 h4 h5 => ho B W M H ρ σ d e z x y Q h1 h2 h3 h4 h5)⟩
theorem dt_e {m : EM} (h : DE X W a m) (he : ∀ whole, isTrue a X.env whole = (do let v ← whole; standAt a.pos; holding [v] (truthy v)) := by intro _; rfl) : DT X W a (tOfE m) := by
  obtain ⟨t, pt, s⟩ := h
  exact ⟨_, pt_val pt he, test_sat s⟩
/-- a op b op' c -/
def eChain (f g : D → D → Option D) (ma mb mc : RM) : EM := fun ρ => (ma ρ).bind fun x ρ1 => (mb ρ1).bind fun y ρ2 => (ofO (x.get ρ2) ρ2).bind fun d _ => (ofO (y.get ρ2) ρ2).bind fun e _ =>
  (ofO (f d e) ρ2).bind fun z _ => (asB z ρ2).bind fun k _ => if k then (mc ρ2).bind fun w ρ3 => (ofO (y.get ρ3) ρ3).bind fun e' _ => (ofO (w.get ρ3) ρ3).bind fun h _ => ofO (g e' h) ρ3 else .ok (.bl false) ρ2
theorem RelR.ext {M M' : Addr → Prop} {H H' : Hp} {ρ ρ' : Env} {σ : St} {r : RV} {v : V} (x : Ext M H M' H') (h : RelR X.K σ M H ρ r v) : RelR X.K σ M' H' ρ' r v := by
  cases r with
  | val d => exact Rp.ext x h
  | own i => exact h
theorem chain_sat {ta tb tc : TE} (ho : OpE X f r) (ho' : OpE X g r') (sa : Sat X W (fun _ σ => RelR X.K σ) ta ma) (sb : Sat X W (fun _ σ => RelR X.K σ) tb mb) (sc : Sat X W (fun _ σ => RelR X.K σ) tc mc) :
    Sat X W (fun _ _ => RelE X.K) (tChain r r' ta tb tc) (eChain f g ma mb mc) := by
  intro B M H ρ σ Q rp k
  refine sa B M H ρ σ _ rp (Post.seq k fun x ρ1 M1 H1 v x1 r1 q1 k1 => ?_)
  refine sb B M1 H1 ρ1 σ _ r1 (Post.seq k1 fun y ρ2 M2 H2 w x2 r2 q2 k2 => ?_)
  cases ex : x.get ρ2 with
  | none => rw [ex] at k2; exact k2.elim
  | some d =>
    rw [ex] at k2
    cases ey : y.get ρ2 with
    | none => rw [ey] at k2; exact k2.elim
    | some e =>
      rw [ey] at k2
      cases ez : f d e with
      | none => simp only [ofO, Res.bind, ez] at k2; exact k2.elim
      | some z =>
        simp only [ofO, Res.bind, ez] at k2
        refine ho B W M2 H2 ρ2 σ d e z v w _ r2 (q1.rq x2 r2 ex) (q2.rq Ext.refl r2 ey) ez fun M3 H3 zv x3 r3 q3 => ?_
        cases z with
        | bl kk =>
          cases q3
          refine ⟨kk, rfl, ?_⟩
          cases kk with
          | false =>
            rw [if_neg Bool.false_ne_true]
            exact k2 M3 H3 _ x3 r3 (.bl false)
          | true =>
            rw [if_pos rfl]
            have k3 : Post X B W (RelE X.K) M3 H3 σ ((mc ρ2).bind fun w ρ3 => (ofO (y.get ρ3) ρ3).bind fun e' _ => (ofO (w.get ρ3) ρ3).bind fun h _ => ofO (g e' h) ρ3) Q := Post.shift x3 k2
            refine sc B M3 H3 ρ2 σ _ r3 (Post.seq k3 fun u ρ4 M4 H4 uv x4 r4 q4 k4 => ?_)
            cases ey' : y.get ρ4 with
            | none => rw [ey'] at k4; exact k4.elim
            | some e' =>
              rw [ey'] at k4
              cases eu : u.get ρ4 with
              | none => simp only [ofO, Res.bind, eu] at k4; exact k4.elim
              | some h' =>
                simp only [ofO, Res.bind, eu] at k4
                cases eg : g e' h' with
                | none => rw [eg] at k4; exact k4.elim
                | some z' =>
                  rw [eg] at k4
                  exact ho' B W M4 H4 ρ4 σ e' h' z' w uv Q r4 (q2.rq (x3.trans x4) r4 ey') (q4.rq Ext.refl r4 eu) eg k4
        | _ => exact k2.elim
theorem de_chain (hr : OpR X (compareOp cop) r) (ho : OpE X f r) (hr' : OpR X (compareOp cop') r') (ho' : OpE X g r') (ha : DR X W a ma) (hb : DR X W b mb) (hc : DR X W c mc)
    (hm : lastMarks [cop, cop'] [b, c] = false := by with_unfolding_all rfl) : DE X W (.Compare a [cop, cop'] [b, c] pos) (eChain f g ma mb mc) := by
  obtain ⟨ta, pa, sa⟩ := ha
  obtain ⟨tb, pb, sb⟩ := hb
  obtain ⟨tc, pc, sc⟩ := hc
  exact ⟨_, pe_chain hr hr' pa pb pc hm, chain_sat ho ho' sa sb sc⟩
theorem dt_chain (hr : OpR X (compareOp cop) r) (ho : OpE X f r) (hr' : OpR X (compareOp cop') r') (ho' : OpE X g r') (ha : DR X W a ma) (hb : DR X W b mb) (hc : DR X W c mc)
    (hm : lastMarks [cop, cop'] [b, c] = false := by with_unfolding_all rfl) : DT X W (.Compare a [cop, cop'] [b, c] pos) (tOfE (eChain f g ma mb mc)) := by
  obtain ⟨ta, pa, sa⟩ := ha
  obtain ⟨tb, pb, sb⟩ := hb
  obtain ⟨tc, pc, sc⟩ := hc
  exact ⟨_, pt_chain hr hr' pa pb pc hm, test_sat (chain_sat ho ho' sa sb sc)⟩
end

/-! ### and, or, not, if .. else -/
section
variable {a b : Expr} {rest : List Expr} {ma mb : TM} {pos : Pos}
def tAndM (ma mb : TM) : TM := fun ρ => (ma ρ).bind fun k ρ1 => if k then mb ρ1 else .ok false ρ1
def tOrM (ma mb : TM) : TM := fun ρ => (ma ρ).bind fun k ρ1 => if k then .ok true ρ1 else mb ρ1
def tNotM (ma : TM) : TM := fun ρ => (ma ρ).bind fun k ρ1 => .ok (!k) ρ1
theorem dw_and1 (ha : DT X W a ma) : DW X W (.BoolOp .And [a] pos) ma := by
  obtain ⟨t, pt, s⟩ := ha
  exact ⟨t, pw_and1 pt, s⟩
theorem dw_or1 (ha : DT X W a ma) : DW X W (.BoolOp .Or [a] pos) ma := by
  obtain ⟨t, pt, s⟩ := ha
  exact ⟨t, pw_or1 pt, s⟩
theorem dw_and (ha : DT X W a ma) (hb : DW X W (.BoolOp .And (b :: rest) pos) mb) : DW X W (.BoolOp .And (a :: b :: rest) pos) (tAndM ma mb) := by
  obtain ⟨t, pt, s⟩ := ha
  obtain ⟨u, pu, s'⟩ := hb
  refine ⟨_, pw_and pt pu, fun B M H ρ σ Q rp k => s B M H ρ σ _ rp (Post.seq k fun x ρ1 M1 H1 v x1 r1 q1 k1 => ?_)⟩
  cases q1
  cases x with
  | true => exact iteT (s' B M1 H1 ρ1 σ Q r1 k1)
  | false => exact iteF (k1 M1 H1 false Ext.refl r1 rfl)
theorem dw_or (ha : DT X W a ma) (hb : DW X W (.BoolOp .Or (b :: rest) pos) mb) : DW X W (.BoolOp .Or (a :: b :: rest) pos) (tOrM ma mb) := by
  obtain ⟨t, pt, s⟩ := ha
  obtain ⟨u, pu, s'⟩ := hb
  refine ⟨_, pw_or pt pu, fun B M H ρ σ Q rp k => s B M H ρ σ _ rp (Post.seq k fun x ρ1 M1 H1 v x1 r1 q1 k1 => ?_)⟩
  cases q1
  cases x with
  | true => exact iteT (k1 M1 H1 true Ext.refl r1 rfl)
  | false => exact iteF (s' B M1 H1 ρ1 σ Q r1 k1)
theorem dt_not (ha : DT X W a ma) : DT X W (.UnaryOp .Not a pos) (tNotM ma) := by
  obtain ⟨t, pt, s⟩ := ha
  refine ⟨_, pt_not pt, fun B M H ρ σ Q rp k => s B M H ρ σ _ rp (Post.seq k fun x ρ1 M1 H1 v x1 r1 q1 k1 => ?_)⟩
  cases q1
  exact k1 M1 H1 _ Ext.refl r1 rfl
def eIf (mc : TM) (ma mb : EM) : EM := fun ρ => (mc ρ).bind fun k ρ1 => if k then ma ρ1 else mb ρ1
theorem de_if {c : Expr} {mc : TM} {ea eb : EM} (hc : DT X W c mc) (ha : DE X W a ea) (hb : DE X W b eb) : DE X W (.IfExp c a b pos) (eIf mc ea eb) := by
  obtain ⟨t, pt, s⟩ := hc
  obtain ⟨u, pu, s1⟩ := ha
  obtain ⟨u', pu', s2⟩ := hb
  refine ⟨_, pe_ifExp pt pu pu', fun B M H ρ σ Q rp k => s B M H ρ σ _ rp (Post.seq k fun x ρ1 M1 H1 v x1 r1 q1 k1 => ?_)⟩
  cases q1
  cases x with
  | true => exact iteT (s1 B M1 H1 ρ1 σ Q r1 k1)
  | false => exact iteF (s2 B M1 H1 ρ1 σ Q r1 k1)
/-- truth of a value -/
def truthy : D → Option Bool
  | .non => some false
  | .bl b => some b
  | .int i => some (i != 0)
  | .str x => some ((x.length : Int) != 0)
  | .tup xs => some (!xs.isEmpty)
  | .lst xs => some (!xs.isEmpty)
  | .dct xs => some (!xs.isEmpty)
  | _ => none
theorem truV_of {M : Addr → Prop} {H : Hp} {d : D} {v : V} {k : Bool} (h : Rq X.K M H d v) (e : truthy d = some k) : TruV X.K v H k := by
  cases d with
  | non => cases h; cases e; rfl
  | bl b => cases h; cases e; rfl
  | int i => cases h; cases e; rfl
  | str x => cases h with
    | str g => cases e; exact ⟨g.1, rfl⟩
  | tup xs => cases h with
    | tup l h1 h2 =>
      cases e
      refine .inr (.inl ⟨_, h1, ?_⟩)
      cases h2 <;> rfl
  | lst xs =>
    obtain ⟨l, a, vs, rfl, h1, h2⟩ := h
    cases e
    refine .inl ⟨_, SqL.of h1, ?_⟩
    cases h2 <;> rfl
  | dct xs =>
    obtain ⟨l, a, vs, rfl, h1, h2⟩ := h
    cases e
    refine .inr (.inr ⟨_, h1, ?_⟩)
    cases h2 <;> rfl
  | _ => cases e
def eAnd (ma mb : EM) : EM := fun ρ => (ma ρ).bind fun d ρ1 => (ofO (truthy d) ρ1).bind fun k _ => if k then mb ρ1 else .ok d ρ1
def eOr (ma mb : EM) : EM := fun ρ => (ma ρ).bind fun d ρ1 => (ofO (truthy d) ρ1).bind fun k _ => if k then .ok d ρ1 else mb ρ1
def eNot (ma : EM) : EM := fun ρ => (ma ρ).bind fun d ρ1 => (ofO (truthy d) ρ1).bind fun k _ => .ok (.bl (!k)) ρ1
theorem de_one {op} {m : EM} (h : DE X W a m) : DE X W (.BoolOp op [a] pos) m := by
  obtain ⟨t, pt, s⟩ := h
  exact ⟨t, pe_one pt, s⟩
variable {ea eb : EM}
end
end
end NV

set_option Elab.async false
set_option linter.all false
set_option maxRecDepth 100000
set_option maxHeartbeats 4000000
/-! Core3: the operators and the built-in functions. -/
namespace NV
open PySem PySem.Spec PyProof.Rows L2

structure Cd (X : Cx) : Prop where
  calm : X.calm = true
  units : X.A.units + 64 < cLine
theorem Cd.blk {X : Cx} (c : Cd X) {s : Shared} {H : Hp} {scope : Scope} {cenv : PySem.Env} {fp : List Addr} : Cd (X.blk s H scope cenv fp) := ⟨c.calm, c.units⟩

/-! ### a scalar answer, a new object -/
section
variable {X : Cx} {B : Base} {W : WX} {M : Addr → Prop} {H : Hp} {ρ : Env} {σ : St} {z : D} {Q : V → Hp → Prop}
theorem post_v (h : Post X B W (RelE X.K) M H σ (.ok z ρ) Q) (r : Rep X.K B M H ρ σ) {v : V} (q : Rp X.K M H z v) : Q v H := h M H v Ext.refl r q
/-- a new tuple -/
theorem post_t {ds : List D} {vs : List V} {p : Addr} (h : Post X B W (RelE X.K) M H σ (.ok (.tup ds) ρ) Q) (r : Rep X.K B M H ρ σ) (q : RpL X.K M H ds vs) (hl : ds.length ≤ sizeLine) (hp : H p = none) : Q (.ref p) (upd H p (.tup vs)) :=
  h M _ _ (Ext.new hp) (r.alloc hp) (.tup hl (SqT.of upd_same) (q.ext (Ext.new hp)))
/-- a new list, as a value -/
theorem post_l {ds : List D} {vs : List V} {p : Addr} (h : Post X B W (RelE X.K) M H σ (.ok (.lst ds) ρ) Q) (r : Rep X.K B M H ρ σ) (q : RpL X.K M H ds vs) (hl : ds.length ≤ sizeLine) (hp : H p = none) : Q (.ref p) (upd H p (.lst vs)) :=
  h M _ _ (Ext.new hp) (r.alloc hp) (.lst hl (fun m => r.trk p m hp) upd_same (q.ext (Ext.new hp)))
theorem Rep.anon_new (r : Rep X.K B M H ρ σ) {p : Addr} (hp : H p = none) : Anon ρ σ p := fun i s hi ho hv => r.own_ne hi ho hv hp rfl
theorem Rep.base_new (r : Rep X.K B M H ρ σ) {p : Addr} (hp : H p = none) : B.H p = none := by
  cases q : B.H p with
  | none => rfl
  | some o => exact absurd hp (r.old p (by rw [q]; simp))
theorem Rep.pr_new (r : Rep X.K B M H ρ σ) {p : Addr} (hp : H p = none) : ∀ q ∈ B.pr, q.1 ≠ p := fun q hq => ne_of_none (r.pr q hq).1 hp
/-- a new list, owned -/
theorem post_o {ds : List D} {vs : List V} {p : Addr} (h : Post X B W (RelF X.K B σ) M H σ (.ok (.lst ds) ρ) Q) (r : Rep X.K B M H ρ σ) (q : RpL X.K M H ds vs) (hl : ds.length ≤ sizeLine) (hp : H p = none) : Q (.ref p) (upd H p (.lst vs)) :=
  h _ _ _ (Ext.newO hp) (r.allocO hp) ⟨p, rfl, ⟨.inr rfl, hl, vs, upd_same, q.ext (Ext.newO hp)⟩, r.base_new hp, r.anon_new hp, r.pr_new hp⟩
theorem post_od {ds : List (Key × D)} {vs : List (Key × V)} {p : Addr} (h : Post X B W (RelF X.K B σ) M H σ (.ok (.dct ds) ρ) Q) (r : Rep X.K B M H ρ σ) (q : RpK X.K M H ds vs) (hl : ds.length ≤ sizeLine) (hp : H p = none) : Q (.ref p) (upd H p (.dK vs)) :=
  h _ _ _ (Ext.newO hp) (r.allocO hp) ⟨p, rfl, ⟨.inr rfl, hl, vs, upd_same, q.ext (Ext.newO hp)⟩, r.base_new hp, r.anon_new hp, r.pr_new hp⟩
theorem post_d {ds : List (Key × D)} {vs : List (Key × V)} {p : Addr} (h : Post X B W (RelE X.K) M H σ (.ok (.dct ds) ρ) Q) (r : Rep X.K B M H ρ σ) (q : RpK X.K M H ds vs) (hl : ds.length ≤ sizeLine) (hp : H p = none) : Q (.ref p) (upd H p (.dK vs)) :=
  h M _ _ (Ext.new hp) (r.alloc hp) (.dct hl (fun m => r.trk p m hp) upd_same (q.ext (Ext.new hp)))
end

theorem rq_int {K : PySem.W.Frag} {M : Addr → Prop} {H : Hp} {i : Int} {v : V} (h : Rq K M H (.int i) v) : v = .int i := by cases h; rfl
theorem rq_bl {K : PySem.W.Frag} {M : Addr → Prop} {H : Hp} {i : Bool} {v : V} (h : Rq K M H (.bl i) v) : v = .bl i := by cases h; rfl
theorem rq_non {K : PySem.W.Frag} {M : Addr → Prop} {H : Hp} {v : V} (h : Rq K M H .non v) : v = .non := by cases h; rfl
theorem rq_str {K : PySem.W.Frag} {M : Addr → Prop} {H : Hp} {x : Str} {v : V} (h : Rq K M H (.str x) v) : v = .str x ∧ StrG x := by cases h with | str g => exact ⟨rfl, g⟩
theorem rq_tup {K : PySem.W.Frag} {M : Addr → Prop} {H : Hp} {ds : List D} {v : V} (h : Rq K M H (.tup ds) v) : ∃ a vs, v = .ref a ∧ ds.length ≤ sizeLine ∧ SqT K H a vs ∧ RpL K M H ds vs := by cases h with | tup l h1 h2 => exact ⟨_, _, rfl, l, h1, h2⟩
theorem rq_lst {K : PySem.W.Frag} {M : Addr → Prop} {H : Hp} {ds : List D} {v : V} (h : Rq K M H (.lst ds) v) : ∃ a vs, v = .ref a ∧ ds.length ≤ sizeLine ∧ H a = some (.lst vs) ∧ RpL K M H ds vs := by
  obtain ⟨l, a, vs, e, h1, h2⟩ := h
  exact ⟨a, vs, e, l, h1, h2⟩
theorem rq_dct {K : PySem.W.Frag} {M : Addr → Prop} {H : Hp} {ds : List (Key × D)} {v : V} (h : Rq K M H (.dct ds) v) : ∃ a vs, v = .ref a ∧ ds.length ≤ sizeLine ∧ H a = some (.dK vs) ∧ RpK K M H ds vs := by
  obtain ⟨l, a, vs, e, h1, h2⟩ := h
  exact ⟨a, vs, e, l, h1, h2⟩
theorem rq_scr {K : PySem.W.Frag} {M : Addr → Prop} {H : Hp} {xs : List Int} {v : V} (h : Rq K M H (.scr xs) v) : ∃ a, v = .ref a ∧ xs.length ≤ sizeLine ∧ SqS K H a xs := by cases h with | scr l h1 => exact ⟨_, rfl, l, h1⟩

/-! ### arithmetic -/
def addD : D → D → Option D
  | .int i, .int j => some (.int (i + j))
  | .str a, .str b => if a.length + b.length ≤ sizeLine then some (.str (a ++ b)) else none
  | .tup a, .tup b => if a.length + b.length ≤ sizeLine then some (.tup (a ++ b)) else none
  | .lst a, .lst b => if a.length + b.length ≤ sizeLine then some (.lst (a ++ b)) else none
  | _, _ => none
theorem strG_append {a b : Str} (ha : StrG a) (hb : StrG b) (h : a.length + b.length ≤ sizeLine) : StrG (a ++ b) := by
  refine ⟨?_, ?_⟩
  · show (a.cps ++ b.cps).size ≤ sizeLine
    rw [Array.size_append]
    exact h
  · have h1 := ha.2
    have h2 := hb.2
    unfold PySem.PyData.strOk at h1 h2 ⊢
    show (a.cps ++ b.cps).all _ = true
    rw [Array.all_append, h1, h2]
    rfl
def rAddS : R2 := fun x y H Q => ∃ i j, x = .str i ∧ y = .str j ∧ i.length + j.length ≤ sizeLine ∧ Q (.str (i ++ j)) H
abbrev rAddI : R2 := rI0 fun i j => .int (i + j)
def rAdd4 (K : PySem.W.Frag) : R2 := fun x y H Q => rAddI x y H Q ∨ (rAddS x y H Q ∨ (rCatA K x y H Q ∨ rCat x y H Q))
section
variable {X : Cx}
theorem op_add4 : OpR X (binaryOp .Add) (rAdd4 X.K) := op_add.or (OpR.or (r := rAddS) op_add_str (op_catA.or op_cat))
theorem o_add : OpE X addD (rAdd4 X.K) := by
  intro B W M H ρ σ d e z x y Q rp hx hy hf h
  unfold addD at hf
  split at hf
  · cases hf
    exact .inl ⟨_, _, rq_int hx, rq_int hy, post_v h rp (.int _)⟩
  · split at hf
    · rename_i hl
      cases hf
      obtain ⟨e1, g1⟩ := rq_str hx
      obtain ⟨e2, g2⟩ := rq_str hy
      exact .inr (.inl ⟨_, _, e1, e2, hl, post_v h rp (.str (strG_append g1 g2 hl))⟩)
    · cases hf
  · split at hf
    · rename_i hl
      cases hf
      obtain ⟨a, vs, e1, l1, t1, r1⟩ := rq_tup hx
      obtain ⟨b, ws, e2, l2, t2, r2⟩ := rq_tup hy
      subst e1 e2
      refine .inr (.inr (.inl ⟨a, b, vs, ws, rfl, rfl, t1, t2, by rw [← r1.length, ← r2.length]; exact hl, fun e => ?_, fun _ e => ?_, fun _ _ p hp => ?_⟩))
      · subst e
        cases r1
        exact post_v h rp (.tup (by simpa using hl) t2 r2)
      · subst e
        cases r2
        exact post_v h rp (.tup (by simpa using hl) t1 (by simpa using r1))
      · exact post_t h rp (r1.append r2) (by simpa using hl) hp
    · cases hf
  · split at hf
    · rename_i hl
      cases hf
      obtain ⟨a, vs, e1, l1, t1, r1⟩ := rq_lst hx
      obtain ⟨b, ws, e2, l2, t2, r2⟩ := rq_lst hy
      subst e1 e2
      exact .inr (.inr (.inr ⟨a, b, vs, ws, rfl, rfl, t1, t2, by rw [← r1.length, ← r2.length]; exact hl, fun p hp => post_l h rp (r1.append r2) (by simpa using hl) hp⟩))
    · cases hf
  · cases hf
/-- two lists -/
def catD : D → D → Option D
  | .lst a, .lst b => if a.length + b.length ≤ sizeLine then some (.lst (a ++ b)) else none
  | _, _ => none
theorem o_cat : OpF X catD rCat := by
  intro B W M H ρ σ d e z x y Q rp hx hy hf h
  unfold catD at hf
  split at hf
  · split at hf
    · rename_i hl
      cases hf
      obtain ⟨a, vs, e1, l1, t1, r1⟩ := rq_lst hx
      obtain ⟨b, ws, e2, l2, t2, r2⟩ := rq_lst hy
      subst e1 e2
      exact ⟨a, b, vs, ws, rfl, rfl, t1, t2, by rw [← r1.length, ← r2.length]; exact hl, fun p hp => post_o h rp (r1.append r2) (by simpa using hl) hp⟩
    · cases hf
  · cases hf
/-- ints in, under a condition, a scalar out -/
theorem o_int {C : Int → Int → Prop} [∀ i j, Decidable (C i j)] {g : Int → Int → V} {g' : Int → Int → D} (hg : ∀ i j K M H, Rp K M H (g' i j) (g i j)) :
    OpE X (fun d e => match d, e with
      | .int i, .int j => if C i j then some (g' i j) else none
      | _, _ => none) (rI C g) := by
  intro B W M H ρ σ d e z x y Q rp hx hy hf h
  dsimp only at hf
  split at hf
  · split at hf
    · rename_i hc
      cases hf
      exact ⟨_, _, rq_int hx, rq_int hy, hc, post_v h rp (hg _ _ _ _ _)⟩
    · cases hf
  · cases hf
theorem o_int0 {g : Int → Int → V} {g' : Int → Int → D} (hg : ∀ i j K M H, Rp K M H (g' i j) (g i j)) :
    OpE X (fun d e => match d, e with
      | .int i, .int j => some (g' i j)
      | _, _ => none) (rI0 g) := by
  intro B W M H ρ σ d e z x y Q rp hx hy hf h
  dsimp only at hf
  split at hf
  · cases hf
    exact ⟨_, _, rq_int hx, rq_int hy, post_v h rp (hg _ _ _ _ _)⟩
  · cases hf
def i2 (g' : Int → Int → D) : D → D → Option D := fun d e => match d, e with
  | .int i, .int j => some (g' i j)
  | _, _ => none
def i2c (C : Int → Int → Prop) [∀ i j, Decidable (C i j)] (g' : Int → Int → D) : D → D → Option D := fun d e => match d, e with
  | .int i, .int j => if C i j then some (g' i j) else none
  | _, _ => none
def subD := i2 fun i j => .int (i - j)
theorem o_sub : OpE X subD (rI0 fun i j => .int (i - j)) := o_int0 fun _ _ _ _ _ => .int _
instance (i j : Int) : Decidable (CMul i j) := by unfold CMul; infer_instance
instance (i j : Int) : Decidable (CDiv i j) := by unfold CDiv; infer_instance
instance (i j : Int) : Decidable (CPow i j) := by unfold CPow; infer_instance
def fdivD := i2c CDiv fun i j => .int (i / j)
theorem o_fdiv : OpE X fdivD (rI CDiv fun i j => .int (i / j)) := o_int fun _ _ _ _ _ => .int _
def modD := i2c (fun _ j => 0 < j) fun i j => .int (i % j)
theorem o_mod : OpE X modD (rI (fun _ j => 0 < j) fun i j => .int (i % j)) := o_int fun _ _ _ _ _ => .int _
def powD := i2c CPow fun i j => .int (i ^ j.toNat)
theorem o_pow : OpE X powD (rI CPow fun i j => .int (i ^ j.toNat)) := o_int fun _ _ _ _ _ => .int _
def shrD := i2c (fun _ j => 0 ≤ j) fun i j => .int (i / 2 ^ j.toNat)
theorem o_shr : OpE X shrD (rI (fun _ j => 0 ≤ j) fun i j => .int (i / 2 ^ j.toNat)) := o_int fun _ _ _ _ _ => .int _
def andD := i2 fun i j => .int (Builtin.bitAnd i j)
theorem o_and : OpE X andD (rI0 fun i j => .int (Builtin.bitAnd i j)) := o_int0 fun _ _ _ _ _ => .int _
def ltD := i2 fun i j => .bl (decide (i < j))
theorem o_lt : OpE X ltD (rI0 fun i j => .bl (decide (i < j))) := o_int0 fun _ _ _ _ _ => .bl _
def leD := i2 fun i j => .bl (decide (i ≤ j))
theorem o_le : OpE X leD (rI0 fun i j => .bl (decide (i ≤ j))) := o_int0 fun _ _ _ _ _ => .bl _
def gtD := i2 fun i j => .bl (decide (j < i))
theorem o_gt : OpE X gtD (rI0 fun i j => .bl (decide (j < i))) := o_int0 fun _ _ _ _ _ => .bl _
def geD := i2 fun i j => .bl (decide (j ≤ i))
theorem o_ge : OpE X geD (rI0 fun i j => .bl (decide (j ≤ i))) := o_int0 fun _ _ _ _ _ => .bl _
/-- int * int, list * int -/
def repL (xs : List D) (k : Int) : List D := (List.replicate k.toNat xs).flatten
def mulD : D → D → Option D
  | .int i, .int j => if CMul i j then some (.int (i * j)) else none
  | .lst xs, .int k => if -(2 ^ 63) ≤ k ∧ k < 2 ^ 63 ∧ xs.length * k.toNat ≤ sizeLine then some (.lst (repL xs k)) else none
  | _, _ => none
def rMul2 : R2 := fun x y H Q => rI CMul (fun i j => .int (i * j)) x y H Q ∨ rRep x y H Q
theorem op_mul2 : OpR X (binaryOp .Mult) rMul2 := op_mul.or op_rep
theorem RpL.rep {K : PySem.W.Frag} {M : Addr → Prop} {H : Hp} {ds : List D} {vs : List V} (h : RpL K M H ds vs) : ∀ k : Nat, RpL K M H (List.replicate k ds).flatten (List.replicate k vs).flatten
  | 0 => .nil
  | k + 1 => by
    rw [List.replicate_succ, List.replicate_succ, List.flatten_cons, List.flatten_cons]
    exact h.append (RpL.rep h k)
theorem repL_length (xs : List D) (k : Int) : (repL xs k).length = xs.length * k.toNat := by
  unfold repL
  rw [List.length_flatten, List.map_replicate, List.sum_replicate_nat, Nat.mul_comm]
end
end NV

set_option Elab.async false
set_option linter.all false
set_option maxRecDepth 100000
set_option maxHeartbeats 4000000
/-! Core3b: equality, in, is. -/
namespace NV
open PySem PySem.Spec PyProof.Rows L2

section
variable {X : Cx}
theorem o_mul : OpE X mulD rMul2 := by
  intro B W M H ρ σ d e z x y Q rp hx hy hf h
  unfold mulD at hf
  split at hf
  · split at hf
    · rename_i hc
      cases hf
      exact .inl ⟨_, _, rq_int hx, rq_int hy, hc, post_v h rp (.int _)⟩
    · cases hf
  · split at hf
    · rename_i hc
      cases hf
      obtain ⟨a, vs, e1, l1, t1, r1⟩ := rq_lst hx
      exact .inr ⟨a, _, vs, e1, rq_int hy, t1, hc.1, hc.2.1, by rw [← r1.length]; exact hc.2.2, fun p hp => post_l h rp (r1.rep _) (by rw [repL_length]; exact hc.2.2) hp⟩
    · cases hf
  · cases hf
def repD : D → D → Option D
  | .lst xs, .int k => if -(2 ^ 63) ≤ k ∧ k < 2 ^ 63 ∧ xs.length * k.toNat ≤ sizeLine then some (.lst (repL xs k)) else none
  | _, _ => none
theorem o_rep : OpF X repD rRep := by
  intro B W M H ρ σ d e z x y Q rp hx hy hf h
  unfold repD at hf
  split at hf
  · split at hf
    · rename_i hc
      cases hf
      obtain ⟨a, vs, e1, l1, t1, r1⟩ := rq_lst hx
      exact ⟨a, _, vs, e1, rq_int hy, t1, hc.1, hc.2.1, by rw [← r1.length]; exact hc.2.2, fun p hp => post_o h rp (r1.rep _) (by rw [repL_length]; exact hc.2.2) hp⟩
    · cases hf
  · cases hf
end

/-! ### == -/
mutual
def toPy : D → PyData
  | .non => .none
  | .bl b => .bool b
  | .int i => .int i
  | .str x => .str x
  | .tup ds => .tuple (toPyL ds)
  | .lst ds => .list (toPyL ds)
  | .dct _ => .dict []
  | .exn _ _ => .dict []
  | .scr _ => .dict []
def toPyL : List D → List PyData
  | [] => []
  | d :: ds => toPy d :: toPyL ds
end
mutual
/-- data that == is told of, at most n deep -/
def okD : Nat → D → Bool
  | _, .non => true
  | _, .bl _ => true
  | _, .int _ => true
  | _, .str _ => true
  | 0, .tup _ => false
  | n + 1, .tup ds => okL n ds
  | 0, .lst _ => false
  | n + 1, .lst ds => okL n ds
  | _, .dct _ => false
  | _, .exn _ _ => false
  | _, .scr _ => false
def okL : Nat → List D → Bool
  | _, [] => true
  | n, d :: ds => okD n d && okL n ds
end
theorem toPyL_map : ∀ ds : List D, toPyL ds = ds.map toPy
  | [] => by rw [toPyL]; rfl
  | d :: ds => by rw [toPyL, toPyL_map ds]; rfl
mutual
theorem okD.depth : ∀ (n : Nat) (d : D), okD n d = true → (toPy d).depth ≤ n
  | n, .non, _ => by rw [toPy, PyData.depth] <;> first | exact Nat.zero_le _ | (intros; intro z; cases z)
  | n, .bl _, _ => by rw [toPy, PyData.depth] <;> first | exact Nat.zero_le _ | (intros; intro z; cases z)
  | n, .int _, _ => by rw [toPy, PyData.depth] <;> first | exact Nat.zero_le _ | (intros; intro z; cases z)
  | n, .str _, _ => by rw [toPy, PyData.depth] <;> first | exact Nat.zero_le _ | (intros; intro z; cases z)
  | 0, .tup _, h => by rw [okD] at h; cases h
  | n + 1, .tup ds, h => by
    rw [okD] at h
    rw [toPy, PyData.depth]
    exact Nat.succ_le_succ (okL.depth n ds h)
  | 0, .lst _, h => by rw [okD] at h; cases h
  | n + 1, .lst ds, h => by
    rw [okD] at h
    rw [toPy, PyData.depth]
    exact Nat.succ_le_succ (okL.depth n ds h)
  | n, .dct _, h => by rw [okD] at h; cases h
  | n, .exn _ _, h => by rw [okD] at h; cases h
  | n, .scr _, h => by rw [okD] at h; cases h
theorem okL.depth : ∀ (n : Nat) (ds : List D), okL n ds = true → PyData.depthAll (toPyL ds) ≤ n
  | n, [], _ => by rw [toPyL, PyData.depthAll]; exact Nat.zero_le _
  | n, d :: ds, h => by
    rw [okL, Bool.and_eq_true] at h
    rw [toPyL, PyData.depthAll]
    exact Nat.max_le.mpr ⟨okD.depth n d h.1, okL.depth n ds h.2⟩
end
section
variable {K : PySem.W.Frag} {M : Addr → Prop} {H : Hp}
mutual
theorem Rp.dp : ∀ (n : Nat) {d : D} {v : V}, okD n d = true → Rp K M H d v → Dp K H v (toPy d) ∧ (toPy d).canLay0 = true
  | n, .non, _, _, r => by cases r; rw [toPy]; exact ⟨.non, by rw [PyData.canLay0]⟩
  | n, .bl _, _, _, r => by cases r; rw [toPy]; exact ⟨.bl _, by rw [PyData.canLay0]⟩
  | n, .int _, _, _, r => by cases r; rw [toPy]; exact ⟨.int _, by rw [PyData.canLay0]⟩
  | n, .str _, _, _, r => by cases r with | str g => rw [toPy]; exact ⟨.str _, by rw [PyData.canLay0]; exact g.2⟩
  | 0, .tup _, _, h, _ => by rw [okD] at h; cases h
  | n + 1, .tup ds, _, h, r => by
    rw [okD] at h
    cases r with
    | tup l h1 h2 =>
      rw [toPy]
      obtain ⟨a, b⟩ := RpL.dp n h h2
      exact ⟨.tup h1 a, by rw [PyData.canLay0]; exact b⟩
  | 0, .lst _, _, h, _ => by rw [okD] at h; cases h
  | n + 1, .lst ds, _, h, r => by
    rw [okD] at h
    cases r with
    | lst l m h1 h2 =>
      rw [toPy]
      obtain ⟨a, b⟩ := RpL.dp n h h2
      exact ⟨.lst (SqL.of h1) a, by rw [PyData.canLay0]; exact b⟩
  | n, .dct _, _, h, _ => by rw [okD] at h; cases h
  | n, .exn _ _, _, h, _ => by rw [okD] at h; cases h
  | n, .scr _, _, h, _ => by rw [okD] at h; cases h
theorem RpL.dp : ∀ (n : Nat) {ds : List D} {vs : List V}, okL n ds = true → RpL K M H ds vs → DpAll K H vs (toPyL ds) ∧ PyData.canLayAll0 (toPyL ds) = true
  | n, [], _, _, r => by cases r; rw [toPyL]; exact ⟨.nil, by rw [PyData.canLayAll0]⟩
  | n, d :: ds, _, h, r => by
    rw [okL, Bool.and_eq_true] at h
    cases r with
    | cons r1 r2 =>
      obtain ⟨a1, b1⟩ := Rp.dp n h.1 r1
      obtain ⟨a2, b2⟩ := RpL.dp n h.2 r2
      rw [toPyL]
      exact ⟨.cons a1 a2, by rw [PyData.canLayAll0, b1, b2]; rfl⟩
end
theorem Rq.dp {n : Nat} {d : D} {v : V} (h : okD n d = true) (r : Rq K M H d v) : Dp K H v (toPy d) ∧ (toPy d).canLay0 = true := by
  cases d with
  | lst ds =>
    obtain ⟨l, a, vs, rfl, h1, h2⟩ := r
    cases n with
    | zero => rw [okD] at h; cases h
    | succ n =>
      rw [okD] at h
      obtain ⟨a, b⟩ := RpL.dp n h h2
      rw [toPy]
      exact ⟨.lst (SqL.of h1) a, by rw [PyData.canLay0]; exact b⟩
  | dct ds => rw [okD] at h; cases h
  | _ => exact Rp.dp n h r
end
def eqD (d e : D) : Bool := PyData.eqv (toPy d) (toPy e)
def eqO (d e : D) : Option D := match d, e with
  | .tup ds, .tup [] => some (.bl ds.isEmpty)
  | d, e => if okD 60 d = true ∧ okD 60 e = true then some (.bl (eqD d e)) else none
def neO (d e : D) : Option D := match d, e with
  | .tup ds, .tup [] => some (.bl (!ds.isEmpty))
  | d, e => if okD 60 d = true ∧ okD 60 e = true then some (.bl (!eqD d e)) else none
section
variable {X : Cx}
/-- a tuple and an empty one -/
def rEq0 (K : PySem.W.Frag) : R2 := fun x y H Q => ∃ a b xs, x = .ref a ∧ y = .ref b ∧ SqT K H a xs ∧ SqT K H b [] ∧ Q (.bl xs.isEmpty) H
def rNe0 (K : PySem.W.Frag) : R2 := fun x y H Q => ∃ a b xs, x = .ref a ∧ y = .ref b ∧ SqT K H a xs ∧ SqT K H b [] ∧ Q (.bl (!xs.isEmpty)) H
theorem op_eq0 (c : Cd X) : OpR X (compareOp .Eq) (rEq0 X.K) := by
  intro pins s σ H x y v u Q I rx ry h
  obtain ⟨a, b, xs, rfl, rfl, h1, h2, q⟩ := h
  cases rx
  cases ry
  obtain ⟨its, r1, t1, _⟩ := I.tuple h1
  obtain ⟨its2, r2, t2, _⟩ := I.tuple h2
  cases r2
  refine SeqAt.eq_tupleAt (e := fun _ => true) t1 t2 (Nat.lt_of_le_of_lt (Nat.le_add_right _ _) c.units) (fun j _ h2 => absurd h2 (by simp)) (fin_bl I q ?_)
  cases r1 <;> simp
theorem op_ne0 (c : Cd X) : OpR X (compareOp .NotEq) (rNe0 X.K) := by
  intro pins s σ H x y v u Q I rx ry h
  obtain ⟨a, b, xs, rfl, rfl, h1, h2, q⟩ := h
  cases rx
  cases ry
  obtain ⟨its, r1, t1, _⟩ := I.tuple h1
  obtain ⟨its2, r2, t2, _⟩ := I.tuple h2
  cases r2
  refine (SeqAt.RcNeAt.tuples (e := fun _ => true) t1 t2 (Nat.lt_of_le_of_lt (Nat.le_add_right _ _) c.units) (fun j _ h2 => absurd h2 (by simp))) _ _ _ _ (fin_bl I q ?_)
  cases r1 <;> simp
def rEq2 (K : PySem.W.Frag) : R2 := fun x y H Q => rEqD K x y H Q ∨ rEq0 K x y H Q
def rNe2 (K : PySem.W.Frag) : R2 := fun x y H Q => rNeD K x y H Q ∨ rNe0 K x y H Q
theorem op_eq2 (c : Cd X) : OpR X (compareOp .Eq) (rEq2 X.K) := (op_eqD c.units).or (op_eq0 c)
theorem op_ne2 (c : Cd X) : OpR X (compareOp .NotEq) (rNe2 X.K) := (op_neD c.units).or (op_ne0 c)
theorem shaped_of {n : Nat} {d : D} (h : okD n d = true) (hn : n ≤ 64) (c : (toPy d).canLay0 = true) : SeqAt.shaped (toPy d) = true := by
  unfold SeqAt.shaped
  rw [c, decide_eq_true (Nat.le_trans (okD.depth n d h) hn)]
  rfl
theorem o_eq : OpE X eqO (rEq2 X.K) := by
  intro B W M H ρ σ d e z x y Q rp hx hy hf h
  unfold eqO at hf
  split at hf
  · cases hf
    obtain ⟨a, vs, e1, l1, t1, r1⟩ := rq_tup hx
    obtain ⟨b, ws, e2, l2, t2, r2⟩ := rq_tup hy
    cases r2
    refine .inr ⟨a, b, vs, e1, e2, t1, t2, ?_⟩
    have e : ∀ {ds : List D}, RpL X.K M H ds vs → vs.isEmpty = ds.isEmpty := fun r => by cases r <;> rfl
    rw [e r1]
    exact post_v h rp (.bl _)
  · split at hf
    · rename_i hc
      cases hf
      obtain ⟨d1, c1⟩ := hx.dp hc.1
      obtain ⟨d2, c2⟩ := hy.dp hc.2
      exact .inl ⟨_, _, d1, d2, shaped_of hc.1 (by decide) c1, shaped_of hc.2 (by decide) c2, post_v h rp (.bl _)⟩
    · cases hf
theorem o_ne : OpE X neO (rNe2 X.K) := by
  intro B W M H ρ σ d e z x y Q rp hx hy hf h
  unfold neO at hf
  split at hf
  · cases hf
    obtain ⟨a, vs, e1, l1, t1, r1⟩ := rq_tup hx
    obtain ⟨b, ws, e2, l2, t2, r2⟩ := rq_tup hy
    cases r2
    refine .inr ⟨a, b, vs, e1, e2, t1, t2, ?_⟩
    have e : ∀ {ds : List D}, RpL X.K M H ds vs → vs.isEmpty = ds.isEmpty := fun r => by cases r <;> rfl
    rw [e r1]
    exact post_v h rp (.bl _)
  · split at hf
    · rename_i hc
      cases hf
      obtain ⟨d1, c1⟩ := hx.dp hc.1
      obtain ⟨d2, c2⟩ := hy.dp hc.2
      exact .inl ⟨_, _, d1, d2, shaped_of hc.1 (by decide) c1, shaped_of hc.2 (by decide) c2, post_v h rp (.bl _)⟩
    · cases hf

/-! ### is: the right side None, True or False -/
def isNon : D → Bool
  | .non => true
  | _ => false
def isBl (b : Bool) : D → Bool
  | .bl a => a == b
  | _ => false
def isD (d e : D) : Option D := match e with
  | .non => some (.bl (isNon d))
  | .bl b => some (.bl (isBl b d))
  | _ => none
def isntD (d e : D) : Option D := match e with
  | .non => some (.bl (!isNon d))
  | .bl b => some (.bl (!isBl b d))
  | _ => none
def constV : V → Bool
  | .non => true
  | .bl _ => true
  | _ => false
def noTy : V → Prop
  | .ty _ => False
  | _ => True
def rIs : R2 := fun x y H Q => constV y = true ∧ noTy x ∧ Q (.bl (decide (x = y))) H
def rIsnt : R2 := fun x y H Q => constV y = true ∧ noTy x ∧ Q (.bl (!decide (x = y))) H
theorem plain_const {x y : V} {v u : Value} (h : constV y = true) (hx : noTy x) (rx : RelV x v) (ry : RelV y u) : plainIs v u = true ∧ (v == u) = decide (x = y) := by
  cases y with
  | non =>
    cases ry
    cases x with
    | non => cases rx; exact ⟨rfl, rfl⟩
    | bl _ => cases rx; exact ⟨rfl, rfl⟩
    | int _ => obtain ⟨t, rfl⟩ := rx; exact ⟨rfl, rfl⟩
    | str _ => obtain ⟨t, rfl⟩ := rx; exact ⟨rfl, rfl⟩
    | byt _ => obtain ⟨t, rfl⟩ := rx; exact ⟨rfl, rfl⟩
    | flt _ => obtain ⟨t, rfl⟩ := rx; exact ⟨rfl, rfl⟩
    | ref _ => cases rx; exact ⟨rfl, rfl⟩
    | ty _ => exact hx.elim
  | bl b =>
    cases ry
    cases x with
    | non => cases rx; exact ⟨rfl, rfl⟩
    | bl a =>
      cases rx
      refine ⟨rfl, ?_⟩
      cases a <;> cases b <;> rfl
    | int _ => obtain ⟨t, rfl⟩ := rx; exact ⟨rfl, rfl⟩
    | str _ => obtain ⟨t, rfl⟩ := rx; exact ⟨rfl, rfl⟩
    | byt _ => obtain ⟨t, rfl⟩ := rx; exact ⟨rfl, rfl⟩
    | flt _ => obtain ⟨t, rfl⟩ := rx; exact ⟨rfl, rfl⟩
    | ref _ => cases rx; exact ⟨rfl, rfl⟩
    | ty _ => exact hx.elim
  | _ => cases h
theorem op_isC : OpR X (compareOp .Is) rIs := by
  intro pins s σ H x y v u Q I rx ry h
  obtain ⟨h1, h2, q⟩ := h
  obtain ⟨p, e⟩ := plain_const h1 h2 rx ry
  exact wpAny_is_plain p (fin_bl I q e.symm)
theorem op_isntC : OpR X (compareOp .IsNot) rIsnt := by
  intro pins s σ H x y v u Q I rx ry h
  obtain ⟨h1, h2, q⟩ := h
  obtain ⟨p, e⟩ := plain_const h1 h2 rx ry
  exact wpAny_isNot_plain p (fin_bl I q (by rw [e]))
theorem rq_noty {K : PySem.W.Frag} {M : Addr → Prop} {H : Hp} {d : D} {v : V} (h : Rq K M H d v) : noTy v := by
  cases d with
  | lst ds => obtain ⟨_, a, _, rfl, _⟩ := h; trivial
  | dct ds => obtain ⟨_, a, _, rfl, _⟩ := h; trivial
  | _ => cases h <;> trivial
theorem rq_const {K : PySem.W.Frag} {M : Addr → Prop} {H : Hp} {d : D} {v : V} (h : Rq K M H d v) : (decide (v = .non) = isNon d) ∧ ∀ b : Bool, decide (v = .bl b) = isBl b d := by
  cases d with
  | lst ds => obtain ⟨_, a, _, rfl, _⟩ := h; exact ⟨rfl, fun _ => rfl⟩
  | dct ds => obtain ⟨_, a, _, rfl, _⟩ := h; exact ⟨rfl, fun _ => rfl⟩
  | bl a =>
    cases h
    refine ⟨rfl, fun b => ?_⟩
    cases a <;> cases b <;> rfl
  | _ => cases h <;> exact ⟨rfl, fun _ => rfl⟩
theorem o_is : OpE X isD rIs := by
  intro B W M H ρ σ d e z x y Q rp hx hy hf h
  obtain ⟨k1, k2⟩ := rq_const hx
  cases e with
  | non =>
    cases hf
    cases (rq_non hy)
    refine ⟨rfl, rq_noty hx, ?_⟩
    rw [k1]
    exact post_v h rp (.bl _)
  | bl b =>
    cases hf
    cases (rq_bl hy)
    refine ⟨rfl, rq_noty hx, ?_⟩
    rw [k2]
    exact post_v h rp (.bl _)
  | _ => cases hf
theorem o_isnt : OpE X isntD rIsnt := by
  intro B W M H ρ σ d e z x y Q rp hx hy hf h
  obtain ⟨k1, k2⟩ := rq_const hx
  cases e with
  | non =>
    cases hf
    cases (rq_non hy)
    refine ⟨rfl, rq_noty hx, ?_⟩
    rw [k1]
    exact post_v h rp (.bl _)
  | bl b =>
    cases hf
    cases (rq_bl hy)
    refine ⟨rfl, rq_noty hx, ?_⟩
    rw [k2]
    exact post_v h rp (.bl _)
  | _ => cases hf

/-! ### in -/
/-- one text within another -/
def inS (a b : Str) : Bool := !(Builtin.Str.occurrences b a 0 b.length 1).isEmpty
theorem inS_sign (c : Nat) (z : Str) : inS ⟨#[c]⟩ z = decide (c ∈ z.cps.toList) := PySem.StrLaws.found_one z c
def rInA (K : PySem.W.Frag) (neg : Bool) : R2 := fun x y H Q => ∃ p xs d ds, y = .ref p ∧ (SqL K H p xs ∨ SqT K H p xs) ∧ Dp K H x d ∧ DpAll K H xs ds ∧ SeqAt.shaped d = true ∧ PyData.canLayAll0 ds = true ∧ d.depth ≤ 60 ∧
  Q (.bl (if neg then !ds.any (fun z => PyData.eqv z d) else ds.any fun z => PyData.eqv z d)) H
theorem op_inA (c : Cd X) : OpR X (compareOp .In) (rInA X.K false) := by
  intro pins s σ H x y v u Q I rx ry h
  obtain ⟨p, xs, d, ds, rfl, hq, dx, dl, sx, cl, hd, q⟩ := h
  obtain ⟨as, r1⟩ := Dp.reads I d x v dx rx
  have hu : X.A.units + 1 + min (PyData.depthAll ds) d.depth < cLine := by
    have := c.units
    have h2 : min (PyData.depthAll ds) d.depth ≤ d.depth := Nat.min_le_right _ _
    omega
  rcases hq with hq | hq
  · obtain ⟨bs, r2⟩ := Dp.reads I (.list ds) (.ref p) u (.lst hq dl) ry
    exact SeqAt.in_list_reads r2 r1 cl (SeqAt.canLay_of_shaped sx) hu ⟨.bl _, H, I, rfl, q⟩
  · obtain ⟨bs, r2⟩ := Dp.reads I (.tuple ds) (.ref p) u (.tup hq dl) ry
    exact SeqAt.in_tuple_reads r2 r1 cl (SeqAt.canLay_of_shaped sx) hu ⟨.bl _, H, I, rfl, q⟩
theorem op_notInA (c : Cd X) : OpR X (compareOp .NotIn) (rInA X.K true) := by
  intro pins s σ H x y v u Q I rx ry h
  obtain ⟨p, xs, d, ds, rfl, hq, dx, dl, sx, cl, hd, q⟩ := h
  obtain ⟨as, r1⟩ := Dp.reads I d x v dx rx
  have hu : X.A.units + 1 + min (PyData.depthAll ds) d.depth < cLine := by
    have := c.units
    have h2 : min (PyData.depthAll ds) d.depth ≤ d.depth := Nat.min_le_right _ _
    omega
  rcases hq with hq | hq
  · obtain ⟨bs, r2⟩ := Dp.reads I (.list ds) (.ref p) u (.lst hq dl) ry
    exact SeqAt.notIn_list_reads r2 r1 cl (SeqAt.canLay_of_shaped sx) hu ⟨.bl _, H, I, rfl, q⟩
  · obtain ⟨bs, r2⟩ := Dp.reads I (.tuple ds) (.ref p) u (.tup hq dl) ry
    exact SeqAt.notIn_tuple_reads r2 r1 cl (SeqAt.canLay_of_shaped sx) hu ⟨.bl _, H, I, rfl, q⟩
def rInS (neg : Bool) : R2 := fun x y H Q => ∃ i j, x = .str i ∧ y = .str j ∧ Q (.bl (if neg then !inS i j else inS i j)) H
theorem op_inSt : OpR X (compareOp .In) (rInS false) := fun pins s σ H x y v u Q I rx ry h => op_in_str pins s σ H x y v u Q I rx ry h
theorem op_notInSt : OpR X (compareOp .NotIn) (rInS true) := fun pins s σ H x y v u Q I rx ry h => L2.op_notIn_str pins s σ H x y v u Q I rx ry h
/-- a key in a dict -/
def rInK (neg : Bool) : R2 := fun x y H Q => ∃ a k kvs, y = .ref a ∧ H a = some (.dK kvs) ∧ x = kV k ∧ Q (.bl (if neg then !(valV kvs k).isSome else (valV kvs k).isSome)) H
theorem op_inK (c : Cd X) : OpR X (compareOp .In) (rInK false) := by
  intro pins s σ H x y v u Q I rx ry h
  obtain ⟨a, k, kvs, rfl, ha, rfl, q⟩ := h
  cases ry
  exact d_in (by have := c.units; omega) I (DGet.k ha) rx fun s' I' => ⟨.bl _, H, I', rfl, q⟩
theorem op_notInK (c : Cd X) : OpR X (compareOp .NotIn) (rInK true) := by
  intro pins s σ H x y v u Q I rx ry h
  obtain ⟨a, k, kvs, rfl, ha, rfl, q⟩ := h
  cases ry
  exact d_notIn (by have := c.units; omega) I (DGet.k ha) rx fun s' I' => ⟨.bl _, H, I', rfl, q⟩
def rInAll (K : PySem.W.Frag) (neg : Bool) : R2 := fun x y H Q => rInA K neg x y H Q ∨ (rInS neg x y H Q ∨ rInK neg x y H Q)
theorem op_in (c : Cd X) : OpR X (compareOp .In) (rInAll X.K false) := (op_inA c).or (op_inSt.or (op_inK c))
theorem op_notIn (c : Cd X) : OpR X (compareOp .NotIn) (rInAll X.K true) := (op_notInA c).or (op_notInSt.or (op_notInK c))
def keyD : D → Option Key
  | .int i => some (.inl i)
  | .str x => some (.inr x)
  | _ => none
def lookD (kvs : List (Key × D)) (k : Key) : Option D := (kvs.find? fun kv => decide (kv.1 = k)).map (·.2)
def anyD (d : D) (ds : List D) : Bool := ds.any fun z => eqD z d
def inB (d e : D) : Option Bool := match d, e with
  | .str a, .str b => some (inS a b)
  | d, .tup ds => if okD 60 d = true ∧ okL 60 ds = true then some (anyD d ds) else none
  | d, .lst ds => if okD 60 d = true ∧ okL 60 ds = true then some (anyD d ds) else none
  | d, .dct kvs => (keyD d).map fun k => (lookD kvs k).isSome
  | _, _ => none
def inD (d e : D) : Option D := (inB d e).map .bl
def notInD (d e : D) : Option D := (inB d e).map fun b => .bl (!b)
theorem RpK.look {K : PySem.W.Frag} {M : Addr → Prop} {H : Hp} (k : Key) : ∀ {ds : List (Key × D)} {vs : List (Key × V)}, RpK K M H ds vs → match lookD ds k with
    | some d => ∃ v, valV vs k = some v ∧ Rp K M H d v
    | none => valV vs k = none
  | [], _, h => by cases h; rfl
  | (j, d) :: ds, _, h => by
    cases h with
    | @cons _ _ _ v vs h1 h2 =>
      have ih := RpK.look k h2
      unfold lookD valV at ih ⊢
      rw [List.find?_cons, List.find?_cons]
      by_cases e : j = k
      · simp only [e, decide_true]
        exact ⟨v, rfl, h1⟩
      · simp only [decide_eq_false e]
        exact ih
theorem RpK.isSome {K : PySem.W.Frag} {M : Addr → Prop} {H : Hp} {k : Key} {ds : List (Key × D)} {vs : List (Key × V)} (h : RpK K M H ds vs) : (valV vs k).isSome = (lookD ds k).isSome := by
  have q := h.look k
  cases e : lookD ds k with
  | none =>
    rw [e] at q
    rw [show valV vs k = none from q]
    rfl
  | some d =>
    rw [e] at q
    obtain ⟨v, q, _⟩ := q
    rw [q]
    rfl
theorem rq_key {K : PySem.W.Frag} {M : Addr → Prop} {H : Hp} {d : D} {v : V} {k : Key} (h : Rq K M H d v) (e : keyD d = some k) : v = kV k := by
  cases d with
  | int i => cases e; exact rq_int h
  | str x => cases e; exact (rq_str h).1
  | _ => cases e
theorem any_py (d : D) (ds : List D) : ((toPyL ds).any fun z => PyData.eqv z (toPy d)) = anyD d ds := by
  rw [toPyL_map, List.any_map]
  rfl
theorem in_some {neg : Bool} {B : Base} {W : WX} {M : Addr → Prop} {H : Hp} {ρ : Env} {σ : St} {d e : D} {b : Bool} {x y : V} {Q : V → Hp → Prop} (rp : Rep X.K B M H ρ σ) (hx : Rq X.K M H d x) (hy : Rq X.K M H e y) (hf : inB d e = some b)
    (h : Post X B W (RelE X.K) M H σ (.ok (.bl (if neg then !b else b)) ρ) Q) : rInAll X.K neg x y H Q := by
  have seq : ∀ (ds : List D) (a : Addr) (vs : List V), y = .ref a → (SqL X.K H a vs ∨ SqT X.K H a vs) → RpL X.K M H ds vs → okD 60 d = true ∧ okL 60 ds = true → b = anyD d ds → rInAll X.K neg x y H Q := by
    intro ds a vs e1 hq r hc eb
    obtain ⟨dx, cx⟩ := hx.dp hc.1
    obtain ⟨dl, cl⟩ := r.dp 60 hc.2
    refine .inl ⟨a, vs, _, _, e1, hq, dx, dl, shaped_of hc.1 (by decide) cx, cl, okD.depth 60 d hc.1, ?_⟩
    rw [any_py, ← eb]
    exact post_v h rp (.bl _)
  unfold inB at hf
  split at hf
  · cases hf
    obtain ⟨e1, _⟩ := rq_str hx
    obtain ⟨e2, _⟩ := rq_str hy
    exact .inr (.inl ⟨_, _, e1, e2, post_v h rp (.bl _)⟩)
  · split at hf
    · rename_i hc
      cases hf
      obtain ⟨a, vs, e1, _, t, r⟩ := rq_tup hy
      exact seq _ a vs e1 (.inr t) r hc rfl
    · cases hf
  · split at hf
    · rename_i hc
      cases hf
      obtain ⟨a, vs, e1, _, t, r⟩ := rq_lst hy
      exact seq _ a vs e1 (.inl (SqL.of t)) r hc rfl
    · cases hf
  · rename_i kvs _
    cases ek : keyD d with
    | none => rw [ek] at hf; cases hf
    | some k =>
      rw [ek] at hf
      cases hf
      obtain ⟨a, vs, e1, _, t, r⟩ := rq_dct hy
      refine .inr (.inr ⟨a, k, vs, e1, t, rq_key hx ek, ?_⟩)
      rw [r.isSome]
      exact post_v h rp (.bl _)
  · cases hf
theorem o_in : OpE X inD (rInAll X.K false) := by
  intro B W M H ρ σ d e z x y Q rp hx hy hf h
  unfold inD at hf
  cases eb : inB d e with
  | none => rw [eb] at hf; cases hf
  | some b =>
    rw [eb] at hf
    cases hf
    exact in_some (neg := false) rp hx hy eb h
theorem o_notIn : OpE X notInD (rInAll X.K true) := by
  intro B W M H ρ σ d e z x y Q rp hx hy hf h
  unfold notInD at hf
  cases eb : inB d e with
  | none => rw [eb] at hf; cases hf
  | some b =>
    rw [eb] at hf
    cases hf
    exact in_some (neg := true) rp hx hy eb h
end
end NV

set_option Elab.async false
set_option linter.all false
set_option maxRecDepth 100000
set_option maxHeartbeats 4000000
/-! Core3c: subscripts, slices, displays, built-in functions. -/
namespace NV
open PySem PySem.Spec PyProof.Rows L2

section
variable {X : Cx} {W : WX}
/-! ### a[b] -/
def rIxK : R2 := fun x y H Q => ∃ a k kvs v, x = .ref a ∧ H a = some (.dK kvs) ∧ y = kV k ∧ valV kvs k = some v ∧ Q v H
theorem ix_key (c : Cd X) : IxR X rIxK := by
  intro value slice pins s σ H x y v u Q I rx ry h hs
  obtain ⟨a, k, kvs, z, rfl, ha, rfl, hv, q⟩ := h
  cases rx
  have g : DGet H a (kV k) (some z) := by rw [← hv]; exact DGet.k ha
  exact tail_any (dict_typeIs I g) PySem.F.slot_dict_getitem.lookup (d_getItem (by have := c.units; omega) I g ry fun w' s' I' rw' => ⟨z, H, I', rw', q⟩) hs
def rIxAll (K : PySem.W.Frag) : R2 := fun x y H Q => rIx K x y H Q ∨ rIxK x y H Q
theorem ix_all (c : Cd X) : IxR X (rIxAll X.K) := ix_seq.or (ix_key c)
def ixD : D → D → Option D
  | .tup xs, .int i => atI xs i
  | .lst xs, .int i => atI xs i
  | .scr xs, .int i => (atI xs i).map .int
  | .str z, .int i => (atI z.cps.toList i).map fun c => .str ⟨#[c]⟩
  | .dct kvs, k => (keyD k).bind fun k => lookD kvs k
  | _, _ => none
theorem RpL.atI {K : PySem.W.Frag} {M : Addr → Prop} {H : Hp} {ds : List D} {vs : List V} {i : Int} {d : D} (h : RpL K M H ds vs) (e : atI ds i = some d) : ∃ v, L2.atI vs i = some v ∧ Rp K M H d v := by
  unfold L2.atI at e ⊢
  rw [← h.length]
  cases hj : ixN ds.length i with
  | none => rw [hj] at e; cases e
  | some j =>
    rw [hj] at e
    obtain ⟨v, q, r⟩ := h.get (i := j) e
    exact ⟨v, q, r⟩
theorem strG_one {z : Str} (g : StrG z) {i : Int} {c : Nat} (e : atI z.cps.toList i = some c) : StrG ⟨#[c]⟩ := by
  refine ⟨by show 1 ≤ sizeLine; decide, ?_⟩
  have h := g.2
  unfold PySem.PyData.strOk at h ⊢
  have hm : c ∈ z.cps.toList := by
    unfold atI at e
    cases hj : ixN z.cps.toList.length i with
    | none => rw [hj] at e; cases e
    | some j =>
      rw [hj] at e
      exact List.mem_of_getElem? e
  rw [Array.all_eq_true_iff_forall_mem] at h
  have := h c (by simpa using hm)
  simpa using this
theorem o_ix : OpE X ixD (rIxAll X.K) := by
  intro B W M H ρ σ d e z x y Q rp hx hy hf h
  unfold ixD at hf
  split at hf
  · obtain ⟨a, vs, e1, _, t, r⟩ := rq_tup hx
    obtain ⟨v, q, r'⟩ := r.atI hf
    exact .inl (.inr (.inl ⟨a, vs, _, v, e1, rq_int hy, t, q, post_v h rp r'⟩))
  · obtain ⟨a, vs, e1, _, t, r⟩ := rq_lst hx
    obtain ⟨v, q, r'⟩ := r.atI hf
    exact .inl (.inl ⟨a, vs, _, v, e1, rq_int hy, SqL.of t, q, post_v h rp r'⟩)
  · rename_i xs i
    obtain ⟨a, e1, _, t⟩ := rq_scr hx
    cases ez : L2.atI xs i with
    | none => rw [ez] at hf; cases hf
    | some n =>
      rw [ez] at hf
      cases hf
      refine .inl (.inl ⟨a, _, i, .int n, e1, rq_int hy, t.sql, ?_, post_v h rp (.int _)⟩)
      unfold L2.atI at ez ⊢
      rw [List.length_map]
      cases hj : ixN xs.length i with
      | none => rw [hj] at ez; cases ez
      | some j =>
        rw [hj] at ez
        have ez : xs[j]? = some n := ez
        show (xs.map V.int)[j]? = _
        rw [List.getElem?_map, ez]
        rfl
  · rename_i z i
    obtain ⟨e1, g⟩ := rq_str hx
    cases ez : L2.atI z.cps.toList i with
    | none => rw [ez] at hf; cases hf
    | some n =>
      rw [ez] at hf
      cases hf
      exact .inl (.inr (.inr ⟨z, i, n, e1, rq_int hy, g.1, ez, post_v h rp (.str (strG_one g ez))⟩))
  · cases ek : keyD e with
    | none => rw [ek] at hf; cases hf
    | some k =>
      rw [ek] at hf
      obtain ⟨a, vs, e1, _, t, r⟩ := rq_dct hx
      simp only [Option.bind_some] at hf
      have q := r.look k
      rw [hf] at q
      obtain ⟨v, q, r'⟩ := q
      exact .inr ⟨a, k, vs, v, e1, t, rq_key hy ek, q, post_v h rp r'⟩
  · cases hf
theorem de_ix {a b : Expr} {ma mb : RM} {pos : Pos} (c : Cd X) (ha : DR X W a ma) (hb : DR X W b mb) (hs : PlainIx b := by exact fun _ _ => rfl) : DE X W (.Subscript a b pos) (eOp2 ixD ma mb) := by
  obtain ⟨ta, pa, sa⟩ := ha
  obtain ⟨tb, pb, sb⟩ := hb
  exact ⟨_, pe_ix (ix_all c) pa pb hs, op2_sat sa sb fun B M H ρ σ d e z x y Q h1 h2 h3 h4 h5 => o_ix B W M H ρ σ d e z x y Q h1 h2 h3 h4 h5⟩

/-! ### slices -/
/-- a slice's part -/
def DO (X : Cx) (W : WX) (e : Option Expr) (m : Env → Res (Option Int)) : Prop := ∃ t, PO X e t ∧ Sat X W (fun _ _ => fun _ _ _ (a b : Option Int) => a = b) t m
def oNo : Env → Res (Option Int) := fun ρ => .ok none ρ
def asI (d : D) (ρ : Env) : Res (Option Int) := match d with
  | .int i => .ok (some i) ρ
  | _ => .bad
def oSome (m : EM) : Env → Res (Option Int) := fun ρ => (m ρ).bind asI
theorem do_none : DO X W none oNo := ⟨_, po_none, fun B M H ρ σ Q rp k => k M H none Ext.refl rp rfl⟩
theorem do_some {e : Expr} {m : EM} (h : DE X W e m) : DO X W (some e) (oSome m) := by
  obtain ⟨t, p, s⟩ := h
  refine ⟨_, po_some p, fun B M H ρ σ Q rp k => s B M H ρ σ _ rp (Post.seq k fun d ρ1 M1 H1 v x1 r1 q1 k1 => ?_)⟩
  cases d with
  | int i =>
    cases q1
    exact ⟨i, rfl, k1 M1 H1 _ Ext.refl r1 rfl⟩
  | _ => exact k1.elim
def cutL {α : Type} (xs : List α) (lo hi : Option Int) : List α := (xs.drop (HT.sIx xs.length 0 lo)).take (HT.sIx xs.length xs.length hi - HT.sIx xs.length 0 lo)
def slD (d : D) (lo hi : Option Int) : Option D := match d with
  | .tup xs => some (.tup (cutL xs lo hi))
  | .lst xs => some (.lst (cutL xs lo hi))
  | .scr xs => some (.lst ((cutL xs lo hi).map .int))
  | .str z => some (.str (cutS z lo hi))
  | _ => none
def rSlAll (K : PySem.W.Frag) : V → Option Int → Option Int → Hp → VK → Prop := fun x lo hi H Q => rSlL K x lo hi H Q ∨ (rSlA K x lo hi H Q ∨ rSlS x lo hi H Q)
theorem sl_all : SlR X (rSlAll X.K) := sl_list.or (sl_tupA.or sl_str)
theorem cut_whole {α : Type} {xs : List α} {lo hi : Option Int} (h : HT.sIx xs.length 0 lo = 0 ∧ HT.sIx xs.length xs.length hi = xs.length) : cutL xs lo hi = xs := by
  unfold cutL
  rw [h.1, h.2]
  simp
theorem cutL_length {α : Type} (xs : List α) (lo hi : Option Int) : (cutL xs lo hi).length ≤ xs.length := by
  unfold cutL
  rw [List.length_take, List.length_drop]
  omega
theorem RpL.cut {K : PySem.W.Frag} {M : Addr → Prop} {H : Hp} {ds : List D} {vs : List V} (h : RpL K M H ds vs) (lo hi : Option Int) : RpL K M H (cutL ds lo hi) (cutV vs lo hi) := by
  unfold cutL cutV
  rw [← h.length]
  exact (h.drop _).take _
theorem cutL_map {α β : Type} (f : α → β) (xs : List α) (lo hi : Option Int) : cutL (xs.map f) lo hi = (cutL xs lo hi).map f := by
  unfold cutL
  rw [List.length_map, List.map_take, List.map_drop]
theorem rpL_ints {K : PySem.W.Frag} {M : Addr → Prop} {H : Hp} : ∀ xs : List Int, RpL K M H (xs.map D.int) (xs.map V.int)
  | [] => .nil
  | x :: xs => .cons (.int x) (rpL_ints xs)
theorem strG_sub {z y : Str} (g : StrG z) (hl : y.cps.toList.length ≤ z.cps.toList.length) (hm : ∀ c ∈ y.cps.toList, c ∈ z.cps.toList) : StrG y := by
  refine ⟨?_, ?_⟩
  · have h : z.cps.size ≤ sizeLine := g.1
    show y.cps.size ≤ sizeLine
    rw [Array.length_toList, Array.length_toList] at hl
    exact Nat.le_trans hl h
  · have h := g.2
    unfold PySem.PyData.strOk at h ⊢
    rw [Array.all_eq_true_iff_forall_mem] at h ⊢
    exact fun x hx => h x (Array.mem_def.mpr (hm x (Array.mem_def.mp hx)))
theorem strG_cut {z : Str} (g : StrG z) (lo hi : Option Int) : StrG (cutS z lo hi) := by
  refine strG_sub g (by rw [Array.length_toList, Array.length_toList]; exact cutS_length z lo hi) fun c hc => ?_
  unfold cutS at hc
  exact List.mem_of_mem_drop (List.mem_of_mem_take (by simpa using hc))
/-- a[lo:hi] -/
def eSl (m : RM) (lo hi : Env → Res (Option Int)) : EM := fun ρ => (m ρ).bind fun x ρ1 => (lo ρ1).bind fun l ρ2 => (hi ρ2).bind fun h ρ3 => (ofO (x.get ρ3) ρ3).bind fun d _ => ofO (slD d l h) ρ3
theorem sl_sat {te : TE} {tl th : TO} {m : RM} {lo hi : Env → Res (Option Int)} {R : Base → St → (Addr → Prop) → Hp → Env → D → V → Prop} {r : V → Option Int → Option Int → Hp → VK → Prop} {f : D → Option Int → Option Int → Option D}
    (s : Sat X W (fun _ σ => RelR X.K σ) te m) (sl : Sat X W (fun _ _ => fun _ _ _ (a b : Option Int) => a = b) tl lo) (sh : Sat X W (fun _ _ => fun _ _ _ (a b : Option Int) => a = b) th hi)
    (h : ∀ (B : Base) (M : Addr → Prop) (H : Hp) (ρ : Env) (σ : St) (d z : D) (l u : Option Int) (x : V) (Q : V → Hp → Prop), Rep X.K B M H ρ σ → Rq X.K M H d x → f d l u = some z → Post X B W (R B σ) M H σ (.ok z ρ) Q → r x l u H Q) :
    Sat X W R (tSl r te tl th) (fun ρ => (m ρ).bind fun x ρ1 => (lo ρ1).bind fun l ρ2 => (hi ρ2).bind fun h ρ3 => (ofO (x.get ρ3) ρ3).bind fun d _ => ofO (f d l h) ρ3) := by
  intro B M H ρ σ Q rp k
  refine s B M H ρ σ _ rp (Post.seq k fun x ρ1 M1 H1 v x1 r1 q1 k1 => ?_)
  refine sl B M1 H1 ρ1 σ _ r1 (Post.seq k1 fun l ρ2 M2 H2 l' x2 r2 q2 k2 => ?_)
  cases q2
  refine sh B M2 H2 ρ2 σ _ r2 (Post.seq k2 fun u ρ3 M3 H3 u' x3 r3 q3 k3 => ?_)
  cases q3
  cases ex : x.get ρ3 with
  | none => rw [ex] at k3; exact k3.elim
  | some d =>
    rw [ex] at k3
    cases ez : f d l u with
    | none => simp only [ofO, Res.bind, ez] at k3; exact k3.elim
    | some z =>
      simp only [ofO, Res.bind, ez] at k3
      exact h B M3 H3 ρ3 σ d z l u v Q r3 (q1.rq (x2.trans x3) r3 ex) ez k3
theorem de_sl {e : Expr} {lo hi : Option Expr} {m : RM} {ml mh : Env → Res (Option Int)} {p2 pos : Pos} (he : DR X W e m) (hl : DO X W lo ml) (hh : DO X W hi mh) : DE X W (.Subscript e (.Slice lo hi none p2) pos) (eSl m ml mh) := by
  obtain ⟨t, p, s⟩ := he
  obtain ⟨tl, pl, sl⟩ := hl
  obtain ⟨th, ph, sh⟩ := hh
  refine ⟨_, pe_slice sl_all p pl ph, sl_sat (f := slD) s sl sh fun B M H ρ σ d z l u x Q rp hx hf k => ?_⟩
  unfold slD at hf
  split at hf
  · cases hf
    obtain ⟨a, vs, e1, l1, t1, r1⟩ := rq_tup hx
    refine .inr (.inl ⟨a, vs, e1, t1, fun hw => ?_, fun _ p hp => post_t k rp (r1.cut l u) (Nat.le_trans (cutL_length _ _ _) l1) hp⟩)
    rw [← r1.length] at hw
    rw [cut_whole hw] at k
    exact post_v k rp (.tup l1 t1 r1)
  · cases hf
    obtain ⟨a, vs, e1, l1, t1, r1⟩ := rq_lst hx
    exact .inl ⟨a, vs, e1, SqL.of t1, fun p hp => post_l k rp (r1.cut l u) (Nat.le_trans (cutL_length _ _ _) l1) hp⟩
  · cases hf
    rename_i xs
    obtain ⟨a, e1, l1, t1⟩ := rq_scr hx
    refine .inl ⟨a, _, e1, t1.sql, fun p hp => ?_⟩
    have q := post_l k rp (vs := (cutL xs l u).map V.int) (p := p) (rpL_ints _) (by rw [List.length_map]; exact Nat.le_trans (cutL_length _ _ _) l1) hp
    rw [← cutL_map] at q
    exact q
  · cases hf
    obtain ⟨e1, g⟩ := rq_str hx
    exact .inr (.inr ⟨_, e1, g.1, post_v k rp (.str (strG_cut g l u))⟩)
  · cases hf
/-- .. of a list, the new list owned -/
def slF (d : D) (lo hi : Option Int) : Option D := match d with
  | .lst xs => some (.lst (cutL xs lo hi))
  | _ => none
def eSlF (m : RM) (lo hi : Env → Res (Option Int)) : EM := fun ρ => (m ρ).bind fun x ρ1 => (lo ρ1).bind fun l ρ2 => (hi ρ2).bind fun h ρ3 => (ofO (x.get ρ3) ρ3).bind fun d _ => ofO (slF d l h) ρ3
theorem df_sl {e : Expr} {lo hi : Option Expr} {m : RM} {ml mh : Env → Res (Option Int)} {p2 pos : Pos} (he : DR X W e m) (hl : DO X W lo ml) (hh : DO X W hi mh) : DF X W (.Subscript e (.Slice lo hi none p2) pos) (eSlF m ml mh) := by
  obtain ⟨t, p, s⟩ := he
  obtain ⟨tl, pl, sl⟩ := hl
  obtain ⟨th, ph, sh⟩ := hh
  refine ⟨_, pe_slice sl_list p pl ph, sl_sat (R := fun B σ => RelF X.K B σ) (f := slF) s sl sh fun B M H ρ σ d z l u x Q rp hx hf k => ?_⟩
  unfold slF at hf
  split at hf
  · cases hf
    obtain ⟨a, vs, e1, l1, t1, r1⟩ := rq_lst hx
    exact ⟨a, vs, e1, SqL.of t1, fun p hp => post_o k rp (r1.cut l u) (Nat.le_trans (cutL_length _ _ _) l1) hp⟩
  · cases hf

/-! ### displays -/
abbrev RelL (K : PySem.W.Frag) : (Addr → Prop) → Hp → Env → List D → List V → Prop := fun M H _ ds vs => RpL K M H ds vs
def DL (X : Cx) (W : WX) (es : List Expr) (m : Env → Res (List D)) : Prop := ∃ t, PA X es t ∧ Sat X W (fun _ _ => RelL X.K) t m
def lNil : Env → Res (List D) := fun ρ => .ok [] ρ
def lCons (m : EM) (ms : Env → Res (List D)) : Env → Res (List D) := fun ρ => (m ρ).bind fun d ρ1 => (ms ρ1).bind fun ds ρ2 => .ok (d :: ds) ρ2
theorem dl_nil : DL X W [] lNil := ⟨_, pa_nil, fun B M H ρ σ Q rp k => k M H [] Ext.refl rp .nil⟩
theorem dl_cons {e : Expr} {es : List Expr} {m : EM} {ms : Env → Res (List D)} (h : DE X W e m) (hs : DL X W es ms) (ha : starEach (e :: es) X.env = (false, eval e X.env) :: starEach es X.env := by rfl) : DL X W (e :: es) (lCons m ms) := by
  obtain ⟨t, p, s⟩ := h
  obtain ⟨ts, ps, ss⟩ := hs
  refine ⟨_, pa_cons p ps ha, fun B M H ρ σ Q rp k => s B M H ρ σ _ rp (Post.seq k fun d ρ1 M1 H1 v x1 r1 q1 k1 => ?_)⟩
  refine ss B M1 H1 ρ1 σ _ r1 (Post.seq k1 fun ds ρ2 M2 H2 vs x2 r2 q2 k2 => ?_)
  exact k2 M2 H2 _ Ext.refl r2 (.cons (Rp.ext x2 q1) q2)
def eTup (m : Env → Res (List D)) : EM := fun ρ => (m ρ).bind fun ds ρ1 => if ds.length ≤ sizeLine then .ok (.tup ds) ρ1 else .bad
def eLst (m : Env → Res (List D)) : EM := fun ρ => (m ρ).bind fun ds ρ1 => if ds.length ≤ sizeLine then .ok (.lst ds) ρ1 else .bad
theorem de_tup {es : List Expr} {m : Env → Res (List D)} {x1 pos} (h : DL X W es m) : DE X W (.Tuple es x1 pos) (eTup m) := by
  obtain ⟨t, p, s⟩ := h
  refine ⟨_, pe_tup p, fun B M H ρ σ Q rp k => s B M H ρ σ _ rp (Post.seq k fun ds ρ1 M1 H1 vs x1 r1 q1 k1 => ?_)⟩
  split at k1
  · rename_i hl
    exact ⟨by rw [← q1.length]; exact hl, fun p hp => post_t k1 r1 q1 hl hp⟩
  · exact k1.elim
theorem df_lst {es : List Expr} {m : Env → Res (List D)} {pos} (h : DL X W es m) : DF X W (.List es pos) (eLst m) := by
  obtain ⟨t, p, s⟩ := h
  refine ⟨_, pe_lst p, fun B M H ρ σ Q rp k => s B M H ρ σ _ rp (Post.seq k fun ds ρ1 M1 H1 vs x1 r1 q1 k1 => ?_)⟩
  split at k1
  · rename_i hl
    exact ⟨by rw [← q1.length]; exact hl, fun p hp => post_o k1 r1 q1 hl hp⟩
  · exact k1.elim
theorem df_dnew {pos} : DF X W (.Dict [] [] pos) (eC (.dct [])) :=
  ⟨_, pe_dnewK, fun B M H ρ σ Q rp k p hp => post_od k rp .nil (Nat.zero_le _) hp⟩

/-! ### built-in functions -/
def aNil : AM := fun ρ => .ok [] ρ
def aCons (m : RM) (ms : AM) : AM := fun ρ => (m ρ).bind fun d ρ1 => (ms ρ1).bind fun ds ρ2 => .ok (d :: ds) ρ2
theorem da_nil : DA X W [] aNil := ⟨_, pa_nil, fun B M H ρ σ Q rp k => k M H [] Ext.refl rp .nil⟩
theorem da_cons {e : Expr} {es : List Expr} {m : RM} {ms : AM} (h : DR X W e m) (hs : DA X W es ms) (ha : starEach (e :: es) X.env = (false, eval e X.env) :: starEach es X.env := by rfl) : DA X W (e :: es) (aCons m ms) := by
  obtain ⟨t, p, s⟩ := h
  obtain ⟨ts, ps, ss⟩ := hs
  refine ⟨_, pa_cons p ps ha, fun B M H ρ σ Q rp k => s B M H ρ σ _ rp (Post.seq k fun d ρ1 M1 H1 v x1 r1 q1 k1 => ?_)⟩
  refine ss B M1 H1 ρ1 σ _ r1 (Post.seq k1 fun ds ρ2 M2 H2 vs x2 r2 q2 k2 => ?_)
  exact k2 M2 H2 _ Ext.refl r2 (.cons (RelR.ext x2 q1) q2)
def getAll (ρ : Env) : List RV → Option (List D)
  | [] => some []
  | r :: rs => match r.get ρ, getAll ρ rs with
    | some d, some ds => some (d :: ds)
    | _, _ => none
def eCallB (f : List D → Option D) (ma : AM) : EM := fun ρ => (ma ρ).bind fun rs ρ1 => (ofO (getAll ρ1 rs) ρ1).bind fun ds _ => ofO (f ds) ρ1
/-- what a built-in's rule asks is served by f -/
def CallE (X : Cx) (f : List D → Option D) (r : List V → Hp → VK → Prop) : Prop :=
  ∀ (B : Base) (W : WX) (M : Addr → Prop) (H : Hp) (ρ : Env) (σ : St) (ds : List D) (z : D) (xs : List V) (Q : V → Hp → Prop), Rep X.K B M H ρ σ → Paired (Rq X.K M H) ds xs → f ds = some z → Post X B W (RelE X.K) M H σ (.ok z ρ) Q → r xs H Q
def CallF (X : Cx) (f : List D → Option D) (r : List V → Hp → VK → Prop) : Prop :=
  ∀ (B : Base) (W : WX) (M : Addr → Prop) (H : Hp) (ρ : Env) (σ : St) (ds : List D) (z : D) (xs : List V) (Q : V → Hp → Prop), Rep X.K B M H ρ σ → Paired (Rq X.K M H) ds xs → f ds = some z → Post X B W (RelF X.K B σ) M H σ (.ok z ρ) Q → r xs H Q
theorem rqs_of {B : Base} {M : Addr → Prop} {H : Hp} {ρ ρ' : Env} {σ : St} (rp : Rep X.K B M H ρ σ) : ∀ {rs : List RV} {vs : List V} {ds : List D}, Paired (fun r v => RelR X.K σ M H ρ' r v) rs vs → getAll ρ rs = some ds → Paired (Rq X.K M H) ds vs
  | [], _, ds, h, e => by cases h; cases e; exact .nil
  | r :: rs, _, ds, h, e => by
    cases h with
    | cons h1 h2 =>
      unfold getAll at e
      cases e1 : r.get ρ with
      | none => rw [e1] at e; cases e
      | some d =>
        rw [e1] at e
        cases e2 : getAll ρ rs with
        | none => rw [e2] at e; cases e
        | some ds' =>
          rw [e2] at e
          cases e
          exact .cons (RelR.rq (ρ := ρ') h1 Ext.refl rp e1) (rqs_of rp h2 e2)
theorem callB_sat {ta : TA} {ma : AM} {f : List D → Option D} {r : List V → Hp → VK → Prop} {R : Base → St → (Addr → Prop) → Hp → Env → D → V → Prop} (s : Sat X W (fun _ σ => RelA X.K σ) ta ma)
    (h : ∀ (B : Base) (M : Addr → Prop) (H : Hp) (ρ : Env) (σ : St) (ds : List D) (z : D) (xs : List V) (Q : V → Hp → Prop), Rep X.K B M H ρ σ → Paired (Rq X.K M H) ds xs → f ds = some z → Post X B W (R B σ) M H σ (.ok z ρ) Q → r xs H Q) :
    Sat X W R (tCB r ta) (eCallB f ma) := by
  intro B M H ρ σ Q rp k
  refine s B M H ρ σ _ rp (Post.seq k fun rs ρ1 M1 H1 vs x1 r1 q1 k1 => ?_)
  cases eg : getAll ρ1 rs with
  | none => rw [eg] at k1; exact k1.elim
  | some ds =>
    rw [eg] at k1
    cases ez : f ds with
    | none => simp only [ofO, Res.bind, ez] at k1; exact k1.elim
    | some z =>
      simp only [ofO, Res.bind, ez] at k1
      exact h B M1 H1 ρ1 σ ds z vs Q r1 (rqs_of r1 q1 eg) ez k1
variable {x : Str} {p pos : Pos} {e : Expr} {es : List Expr} {ma : AM} {f : List D → Option D} {r : List V → Hp → VK → Prop} {id : String}
theorem de_callB (hc : CallR X (.builtin id) r) (hf : CallE X f r) (hg : Gl X x) (hm : X.mg x = none) (hv : bootBuiltins x = some (.builtin id)) (ha : DA X W (e :: es) ma) (hn : x ≠ "__name__" := by decide) (hdb : (x == ("__debug__" : Str)) = false := by decide)
    (he : starEach (e :: es) X.env = (false, eval e X.env) :: starEach es X.env := by rfl) (hpl : (backTo pos (starEach es X.env)).any (·.1) = false := by rfl) : DE X W (.Call (.Name x p) (e :: es) [] pos) (eCallB f ma) := by
  obtain ⟨t, pt, s⟩ := ha
  exact ⟨_, pe_callB hc hg hm hv pt hn hdb he hpl, callB_sat s fun B M H ρ σ ds z xs Q h1 h2 h3 h4 => hf B W M H ρ σ ds z xs Q h1 h2 h3 h4⟩
theorem df_callB (hc : CallR X (.builtin id) r) (hf : CallF X f r) (hg : Gl X x) (hm : X.mg x = none) (hv : bootBuiltins x = some (.builtin id)) (ha : DA X W (e :: es) ma) (hn : x ≠ "__name__" := by decide) (hdb : (x == ("__debug__" : Str)) = false := by decide)
    (he : starEach (e :: es) X.env = (false, eval e X.env) :: starEach es X.env := by rfl) (hpl : (backTo pos (starEach es X.env)).any (·.1) = false := by rfl) : DF X W (.Call (.Name x p) (e :: es) [] pos) (eCallB f ma) := by
  obtain ⟨t, pt, s⟩ := ha
  exact ⟨_, pe_callB hc hg hm hv pt hn hdb he hpl, callB_sat (R := fun B σ => RelF X.K B σ) s fun B M H ρ σ ds z xs Q h1 h2 h3 h4 => hf B W M H ρ σ ds z xs Q h1 h2 h3 h4⟩
theorem de_callT (hc : CallR X (.type id) r) (hf : CallE X f r) (hg : Gl X x) (hm : X.mg x = none) (hv : bootBuiltins x = some (.type id)) (ha : DA X W (e :: es) ma) (hn : x ≠ "__name__" := by decide) (hdb : (x == ("__debug__" : Str)) = false := by decide)
    (he : starEach (e :: es) X.env = (false, eval e X.env) :: starEach es X.env := by rfl) (hpl : (backTo pos (starEach es X.env)).any (·.1) = false := by rfl) : DE X W (.Call (.Name x p) (e :: es) [] pos) (eCallB f ma) := by
  obtain ⟨t, pt, s⟩ := ha
  exact ⟨_, pe_callTy hc hg hm hv pt hn hdb he hpl, callB_sat s fun B M H ρ σ ds z xs Q h1 h2 h3 h4 => hf B W M H ρ σ ds z xs Q h1 h2 h3 h4⟩
theorem df_callT (hc : CallR X (.type id) r) (hf : CallF X f r) (hg : Gl X x) (hm : X.mg x = none) (hv : bootBuiltins x = some (.type id)) (ha : DA X W (e :: es) ma) (hn : x ≠ "__name__" := by decide) (hdb : (x == ("__debug__" : Str)) = false := by decide)
    (he : starEach (e :: es) X.env = (false, eval e X.env) :: starEach es X.env := by rfl) (hpl : (backTo pos (starEach es X.env)).any (·.1) = false := by rfl) : DF X W (.Call (.Name x p) (e :: es) [] pos) (eCallB f ma) := by
  obtain ⟨t, pt, s⟩ := ha
  exact ⟨_, pe_callTy hc hg hm hv pt hn hdb he hpl, callB_sat (R := fun B σ => RelF X.K B σ) s fun B M H ρ σ ds z xs Q h1 h2 h3 h4 => hf B W M H ρ σ ds z xs Q h1 h2 h3 h4⟩
end
end NV

set_option Elab.async false
set_option linter.all false
set_option maxRecDepth 100000
set_option maxHeartbeats 4000000
/-! Core4: statements, targets, loops, comprehensions. -/
namespace NV
open PySem PySem.Spec PyProof.Rows L2

inductive Out where
  | nx (ρ : Env)
  | rt (d : D) (ρ : Env)
  /-- a new list is handed back -/
  | rtF (d : D) (ρ : Env)
  | bk (ρ : Env)
  | ct (ρ : Env)
  | exc (x : Exn) (ρ : Env)
  | bad
abbrev SM := Env → Out
def Out.seq : Out → SM → Out
  | .nx ρ, f => f ρ
  | o, _ => o
def Res.out {α : Type} : Res α → (α → Env → Out) → Out
  | .ok a ρ, f => f a ρ
  | .exc x ρ, _ => .exc x ρ
  | .bad, _ => .bad
theorem seq_nx (ρ : Env) (f : SM) : (Out.nx ρ).seq f = f ρ := rfl
theorem seq_rt (d : D) (ρ : Env) (f : SM) : (Out.rt d ρ).seq f = .rt d ρ := rfl
theorem seq_rtF (d : D) (ρ : Env) (f : SM) : (Out.rtF d ρ).seq f = .rtF d ρ := rfl
theorem seq_bk (ρ : Env) (f : SM) : (Out.bk ρ).seq f = .bk ρ := rfl
theorem seq_ct (ρ : Env) (f : SM) : (Out.ct ρ).seq f = .ct ρ := rfl
theorem seq_exc (x : Exn) (ρ : Env) (f : SM) : (Out.exc x ρ).seq f = .exc x ρ := rfl
theorem seq_bad (f : SM) : Out.bad.seq f = .bad := rfl
theorem out_ok {α : Type} (a : α) (ρ : Env) (f : α → Env → Out) : (Res.ok a ρ).out f = f a ρ := rfl
theorem out_exc {α : Type} (x : Exn) (ρ : Env) (f : α → Env → Out) : (Res.exc x ρ).out f = .exc x ρ := rfl
theorem out_bad {α : Type} (f : α → Env → Out) : (Res.bad).out f = .bad := rfl

def PostS (X : Cx) (B : Base) (W : WX) (M : Addr → Prop) (H : Hp) (o : Out) (E : Ends) : Prop := match o with
  | .nx ρ => ∀ (M' : Addr → Prop) (H' : Hp) (σ' : St), Ext M H M' H' → Rep X.K B M' H' ρ σ' → E.nx σ' H'
  | .rt d ρ => ∀ (M' : Addr → Prop) (H' : Hp) (σ' : St) (v : V), Ext M H M' H' → Rep X.K B M' H' ρ σ' → Rp X.K M' H' d v → E.rt v H'
  | .rtF d ρ => ∀ (M' : Addr → Prop) (H' : Hp) (σ' : St) (v : V), Ext M H M' H' → Rep X.K B M' H' ρ σ' → RelF X.K B σ' M' H' ρ d v → E.rt v H'
  | .bk ρ => ∀ (M' : Addr → Prop) (H' : Hp) (σ' : St), Ext M H M' H' → Rep X.K B M' H' ρ σ' → E.bk σ' H'
  | .ct ρ => ∀ (M' : Addr → Prop) (H' : Hp) (σ' : St), Ext M H M' H' → Rep X.K B M' H' ρ σ' → E.ct σ' H'
  | .exc x ρ => ∀ (M' : Addr → Prop) (H' : Hp) (σ' : St) (c : Value) (dx : Option Addr), Ext M H M' H' → Rep X.K B M' H' ρ σ' → ExR X.K X.mg M' H' x c dx → W c dx σ' H'
  | .bad => False

section
variable {X : Cx} {W : WX} {B : Base} {M M' : Addr → Prop} {H H' : Hp}
theorem PostS.shift {o : Out} {E : Ends} (e : Ext M H M' H') (h : PostS X B W M H o E) : PostS X B W M' H' o E := by
  cases o with
  | nx ρ => exact fun M2 H2 s2 e2 r2 => h M2 H2 s2 (e.trans e2) r2
  | rt d ρ => exact fun M2 H2 s2 v e2 r2 q => h M2 H2 s2 v (e.trans e2) r2 q
  | rtF d ρ => exact fun M2 H2 s2 v e2 r2 q => h M2 H2 s2 v (e.trans e2) r2 q
  | bk ρ => exact fun M2 H2 s2 e2 r2 => h M2 H2 s2 (e.trans e2) r2
  | ct ρ => exact fun M2 H2 s2 e2 r2 => h M2 H2 s2 (e.trans e2) r2
  | exc x ρ => exact fun M2 H2 s2 c dx e2 r2 q => h M2 H2 s2 c dx (e.trans e2) r2 q
  | bad => exact h
/-- an expression's result, then a statement's -/
theorem PostS.out {α β : Type} {R : (Addr → Prop) → Hp → Env → α → β → Prop} {σ : St} {r : Res α} {f : α → Env → Out} {E : Ends} {Q1 : β → Hp → Prop} (h : PostS X B W M H (r.out f) E)
    (k : ∀ a ρ' M' H' b, Ext M H M' H' → Rep X.K B M' H' ρ' σ → R M' H' ρ' a b → PostS X B W M' H' (f a ρ') E → Q1 b H') : Post X B W R M H σ r Q1 := by
  cases r with
  | ok a ρ => exact fun M2 H2 b e2 r2 q => k a ρ M2 H2 b e2 r2 q (PostS.shift e2 h)
  | exc x ρ => exact fun M2 H2 c dx e2 r2 q => h M2 H2 σ c dx e2 r2 q
  | bad => exact h
theorem PostS.seq {o : Out} {f : SM} {E : Ends} {nx : St → Hp → Prop} (h : PostS X B W M H (o.seq f) E)
    (k : ∀ ρ' M' H' σ', Ext M H M' H' → Rep X.K B M' H' ρ' σ' → PostS X B W M' H' (f ρ') E → nx σ' H') : PostS X B W M H o { E with nx := nx } := by
  cases o with
  | nx ρ => exact fun M2 H2 s2 e2 r2 => k ρ M2 H2 s2 e2 r2 (PostS.shift e2 h)
  | rt d ρ => exact h
  | rtF d ρ => exact h
  | bk ρ => exact h
  | ct ρ => exact h
  | exc x ρ => exact h
  | bad => exact h
end

def SatS (X : Cx) (W : WX) (t : TS) (m : SM) : Prop :=
  ∀ (B : Base) (M : Addr → Prop) (H : Hp) (ρ : Env) (σ : St) (E : Ends), Rep X.K B M H ρ σ → PostS X B W M H (m ρ) E → t E σ H
def DS (X : Cx) (W : WX) (s : Stmt) (m : SM) : Prop := ∃ t, PS X s t ∧ SatS X W t m
def DSs (X : Cx) (W : WX) (s : List Stmt) (m : SM) : Prop := ∃ t, PSs X s t ∧ SatS X W t m

section
variable {X : Cx} {W : WX} {st : Stmt} {rest : List Stmt} {e : Expr} {pos : Pos}
def sNil : SM := fun ρ => .nx ρ
def sSeq (a b : SM) : SM := fun ρ => (a ρ).seq b
theorem dss_nil : DSs X W [] sNil := ⟨_, pss_nil, fun B M H ρ σ E r h => h M H σ Ext.refl r⟩
theorem dss_cons {a b : SM} (h1 : DS X W st a) (h2 : DSs X W rest b) : DSs X W (st :: rest) (sSeq a b) := by
  obtain ⟨t, p, s⟩ := h1
  obtain ⟨u, q, s'⟩ := h2
  exact ⟨_, pss_cons p q, fun B M H ρ σ E r h => s B M H ρ σ _ r (PostS.seq h fun ρ' M' H' σ' _ r' k => s' B M' H' ρ' σ' E r' k)⟩
theorem dss_one {a : SM} (h1 : DS X W st a) : DSs X W [st] a := by
  obtain ⟨t, p, s⟩ := h1
  exact ⟨_, pss_one p, s⟩
theorem ds_pass : DS X W (.Pass pos) sNil := ⟨_, ps_pass, fun B M H ρ σ E r h => h M H σ Ext.refl r⟩
/-- a ghost step: slot i is owned no more -/
def sFrz (i : Nat) (m : SM) : SM := fun ρ => match ρ[i]? with
  | some (.o d) => m (ρ.set i (.v d))
  | _ => .bad
theorem dss_frz (i : Nat) {m : SM} (h : DSs X W rest m) : DSs X W rest (sFrz i m) := by
  obtain ⟨t, p, s⟩ := h
  refine ⟨t, p, fun B M H ρ σ E r h => ?_⟩
  unfold sFrz at h
  split at h
  · rename_i d hd
    obtain ⟨M', sub, r'⟩ := r.frz hd
    exact s B M' H _ σ E r' (PostS.shift (Ext.sub sub) h)
  · exact h.elim
theorem ds_frz (i : Nat) {m : SM} (h : DS X W st m) : DS X W st (sFrz i m) := by
  obtain ⟨t, p, s⟩ := h
  refine ⟨t, p, fun B M H ρ σ E r h => ?_⟩
  unfold sFrz at h
  split at h
  · rename_i d hd
    obtain ⟨M', sub, r'⟩ := r.frz hd
    exact s B M' H _ σ E r' (PostS.shift (Ext.sub sub) h)
  · exact h.elim
def sSet (i : Nat) (m : EM) : SM := fun ρ => (m ρ).out fun d ρ1 => .nx (ρ1.set i (.v d))
def sSetO (i : Nat) (m : EM) : SM := fun ρ => (m ρ).out fun d ρ1 => .nx (ρ1.set i (.o d))
theorem ds_set {i : Nat} {x : Str} {m : EM} {pos' : Pos} (hN : X.N.Nodup) (hi : X.N[i]? = some x) (hx : Loc X.env.scope x) (h : DE X W e m) (hs : swapsWith e (some (.Name x pos')) pos.line X.env = pure false := by rfl) (hf : X.fn x = true ∨ X.env.scope.names.lookup x = some .local := by first | exact .inl rfl | exact .inr rfl | assumption) :
    DS X W (.Assign [.Name x pos'] e pos) (sSet i m) := by
  obtain ⟨t, p, s⟩ := h
  exact ⟨_, ps_set hN hi hx p hs hf, fun B M H ρ σ E r h => s B M H ρ σ _ r (PostS.out h fun d ρ1 M1 H1 v x1 r1 q1 k1 => k1 M1 H1 _ Ext.refl (r1.setV i q1))⟩
theorem ds_setO {i : Nat} {x : Str} {m : EM} {pos' : Pos} (hN : X.N.Nodup) (hi : X.N[i]? = some x) (hx : Loc X.env.scope x) (h : DF X W e m) (hs : swapsWith e (some (.Name x pos')) pos.line X.env = pure false := by rfl) (hf : X.fn x = true ∨ X.env.scope.names.lookup x = some .local := by first | exact .inl rfl | exact .inr rfl | assumption) :
    DS X W (.Assign [.Name x pos'] e pos) (sSetO i m) := by
  obtain ⟨t, p, s⟩ := h
  refine ⟨_, ps_set hN hi hx p hs hf, fun B M H ρ σ E r h => s B M H ρ σ _ r (PostS.out (R := RelF X.K B σ) h fun d ρ1 M1 H1 v x1 r1 q1 k1 => ?_)⟩
  obtain ⟨a, rfl, w, hb, an, np⟩ := q1
  exact k1 M1 H1 _ Ext.refl (r1.setO i w hb an np)
def sRet (m : EM) : SM := fun ρ => (m ρ).out fun d ρ1 => .rt d ρ1
def sRetF (m : EM) : SM := fun ρ => (m ρ).out fun d ρ1 => .rtF d ρ1
def sRetN : SM := fun ρ => .rt .non ρ
theorem ds_ret {m : EM} (h : DE X W e m) : DS X W (.Return (some e) pos) (sRet m) := by
  obtain ⟨t, p, s⟩ := h
  exact ⟨_, ps_ret p, fun B M H ρ σ E r h => s B M H ρ σ _ r (PostS.out h fun d ρ1 M1 H1 v x1 r1 q1 k1 => k1 M1 H1 _ v Ext.refl r1 q1)⟩
theorem ds_retF {m : EM} (h : DF X W e m) : DS X W (.Return (some e) pos) (sRetF m) := by
  obtain ⟨t, p, s⟩ := h
  exact ⟨_, ps_ret p, fun B M H ρ σ E r h => s B M H ρ σ _ r (PostS.out (R := RelF X.K B σ) h fun d ρ1 M1 H1 v x1 r1 q1 k1 => k1 M1 H1 _ v Ext.refl r1 q1)⟩
theorem ds_retN : DS X W (.Return none pos) sRetN := ⟨_, ps_retN, fun B M H ρ σ E r h => h M H σ _ Ext.refl r .non⟩
def sIf (c : TM) (a b : SM) : SM := fun ρ => (c ρ).out fun k ρ1 => if k then a ρ1 else b ρ1
theorem ds_if {c : Expr} {sa sb : List Stmt} {mc : TM} {a b : SM} (hc : DT X W c mc) (ha : DSs X W sa a) (hb : DSs X W sb b) : DS X W (.If c sa sb pos) (sIf mc a b) := by
  obtain ⟨t, p, s⟩ := hc
  obtain ⟨ta, pa, s1⟩ := ha
  obtain ⟨tb, pb, s2⟩ := hb
  refine ⟨_, ps_if p pa pb, fun B M H ρ σ E r h => s B M H ρ σ _ r (PostS.out h fun k ρ1 M1 H1 v x1 r1 q1 k1 => ?_)⟩
  cases q1
  cases k with
  | true => exact iteT (s1 B M1 H1 ρ1 σ E r1 k1)
  | false => exact iteF (s2 B M1 H1 ρ1 σ E r1 k1)
def sDrop (m : EM) : SM := fun ρ => (m ρ).out fun _ ρ1 => .nx ρ1
theorem ds_expr {m : EM} (h : DE X W e m) (hs : swapsWith e none pos.line X.env = pure false := by rfl) : DS X W (.Expr e pos) (sDrop m) := by
  obtain ⟨t, p, s⟩ := h
  exact ⟨_, ps_expr p hs, fun B M H ρ σ E r h => s B M H ρ σ _ r (PostS.out h fun d ρ1 M1 H1 v x1 r1 q1 k1 => k1 M1 H1 _ Ext.refl r1)⟩

/-! ### owned objects are changed -/
def ownGet (ρ : Env) (i : Nat) : Option D := (RV.own i).get ρ
def ownSet (ρ : Env) (i : Nat) (d : D) : Env := match ρ[i]? with
  | some (.p _) => ρ.set i (.p d)
  | some (.o _) => ρ.set i (.o d)
  | _ => ρ
theorem own_at {K : PySem.W.Frag} {B : Base} {M : Addr → Prop} {H : Hp} {ρ : Env} {σ : St} {i : Nat} {d : D} (r : Rep K B M H ρ σ) (h : ownGet ρ i = some d) :
    ∃ a s, ρ[i]? = some s ∧ isOwn s = true ∧ σ[i]? = some (some (V.ref a)) ∧ Ow K M H d a ∧ ∀ d', ownSet ρ i d' = ρ.set i (reSlot s d') := by
  unfold ownGet at h
  cases e : ρ[i]? with
  | none => simp only [RV.get, e] at h; cases h
  | some s =>
    simp only [RV.get, e] at h
    cases s with
    | no => cases h
    | v d => cases h
    | o d1 =>
      cases h
      obtain ⟨a, e1, w, _⟩ := r.slot i _ e
      exact ⟨a, _, rfl, rfl, join_of e1, w, fun d' => by unfold ownSet; rw [e]; rfl⟩
    | p d1 =>
      cases h
      obtain ⟨a, e1, w, _⟩ := r.slot i _ e
      exact ⟨a, _, rfl, rfl, join_of e1, w, fun d' => by unfold ownSet; rw [e]; rfl⟩
/-- what a method's rule asks is served by f: the new content, the answer -/
def MutE (X : Cx) (f : D → List D → Option (D × D)) (r : V → List V → Hp → VK → Prop) : Prop :=
  ∀ (M : Addr → Prop) (H : Hp) (a : Addr) (d d' z : D) (ds : List D) (xs : List V) (Q : V → Hp → Prop), Ow X.K M H d a → RpL X.K M H ds xs → f d ds = some (d', z) →
    (∀ (u : HO) (v : V), Ow X.K M (upd H a u) d' a → (∀ H', Ext M H M H' → Rp X.K M H' z v) → Q v (upd H a u)) → r (.ref a) xs H Q
def eMut (i : Nat) (ok : D → Bool) (f : D → List D → Option (D × D)) (ml : Env → Res (List D)) : EM := fun ρ => (ofO (ownGet ρ i) ρ).bind fun d0 _ => if ok d0 then (ml ρ).bind fun ds ρ1 => (ofO (ownGet ρ1 i) ρ1).bind fun d _ =>
  (ofO (f d ds) ρ1).bind fun r _ => .ok r.2 (ownSet ρ1 i r.1) else .bad
def isLst : D → Bool
  | .lst _ => true
  | _ => false
theorem de_mut {i : Nat} {x : Str} {px apos cpos : Pos} {f : D → List D → Option (D × D)} {r : V → List V → Hp → VK → Prop} {ml : Env → Res (List D)} {es : List Expr} {name : Str} {id : String} (hv : PE X (.Name x px) (tVar i))
    (slot : PySem.Slot "list" name id) (hty : typeOf (.builtin id) = pure (.type "method_descriptor")) (hm : MtR X id r) (hf : MutE X f r) (ha : DL X W (e :: es) ml)
    (hbase : attributeBase (.Name x px) name X.env (eval (.Name x px) X.env) = eval (.Name x px) X.env := by rfl)
    (hfew : ((backTo cpos (starEach (e :: es) X.env)).all (fun x => !x.1) && (backToKw cpos (keywordEach [] X.env)).all (fun x => x.1.isSome)
      && decide ((e :: es).length + ([] : List Keyword).length + (if ([] : List Keyword).isEmpty then 0 else 1) < 30)) = true := by rfl)
    (hline : (apos.endLine == cpos.line) = true := by rfl) (hs : starEach (e :: es) X.env = (false, eval e X.env) :: starEach es X.env := by rfl) (hplain : (backTo cpos (starEach es X.env)).any (·.1) = false := by rfl) :
    DE X W (.Call (.Attribute (.Name x px) name apos) (e :: es) [] cpos) (eMut i isLst f ml) := by
  obtain ⟨t, p, s⟩ := ha
  refine ⟨_, pe_bm PySem.F.plainAttrs_list slot hty hm hv p hbase hfew hline hs hplain, fun B M H ρ σ Q rp k => ?_⟩
  unfold eMut at k
  cases e0 : ownGet ρ i with
  | none => rw [e0] at k; exact k.elim
  | some d0 =>
    rw [e0] at k
    cases d0 with
    | lst ds0 =>
      simp only [ofO, Res.bind, isLst] at k
      obtain ⟨a, sl, hi, ho, hv1, w, _⟩ := own_at rp e0
      obtain ⟨_, _, vs0, hH, _⟩ := w
      refine ⟨_, hv1, .inl ⟨rfl, _, SqL.of hH⟩, ?_⟩
      refine s B M H ρ σ _ rp (Post.seq k fun ds ρ1 M1 H1 xs x1 r1 q1 k1 => ?_)
      cases e1 : ownGet ρ1 i with
      | none => rw [e1] at k1; exact k1.elim
      | some d =>
        rw [e1] at k1
        obtain ⟨a', sl', hi', ho', hv', w', es'⟩ := own_at r1 e1
        rw [hv1] at hv'
        cases hv'
        cases e2 : f d ds with
        | none => simp only [ofO, Res.bind, e2] at k1; exact k1.elim
        | some r =>
          simp only [ofO, Res.bind, e2] at k1
          obtain ⟨o0, q0, im⟩ := w'.there
          refine hf M1 H1 a d r.1 r.2 ds xs Q w' q1 e2 fun u v wn rz => ?_
          have hx : Ext M1 H1 M1 (upd H1 a u) := Ext.write w'.mem q0 im
          refine k1 M1 _ v hx ?_ (rz _ hx)
          rw [es' r.1]
          exact r1.mutate hi' ho' hv1 wn rfl
    | _ => simp only [ofO, Res.bind, isLst] at k; exact k.elim
def appD (d : D) (xs : List D) : Option (D × D) := match d, xs with
  | .lst ds, [y] => if ds.length < sizeLine then some (.lst (ds ++ [y]), .non) else none
  | _, _ => none
theorem m_append : MutE X appD rAppend := by
  intro M H a d d' z ds xs Q w r hf k
  unfold appD at hf
  split at hf
  · split at hf
    · rename_i hl
      cases hf
      obtain ⟨m, l, vs, e, q⟩ := w
      cases r with
      | @cons _ _ v1 _ r1 r2 =>
        cases r2
        have hx : Ext M H M (upd H a (.lst (vs ++ [v1]))) := Ext.write m e fun z => z
        exact ⟨a, vs, _, rfl, rfl, e, by rw [← q.length]; exact hl, k _ _ ⟨m, by rw [List.length_append]; exact hl, _, upd_same, RpL.ext hx (q.append (.cons r1 .nil))⟩ fun _ _ => .non⟩
    · cases hf
  · cases hf
/-- xs[i] = e -/
def sSetIx (i : Nat) (me mi : EM) : SM := fun ρ => (me ρ).out fun z ρ1 => (ofO (ownGet ρ1 i) ρ1).out fun _ _ => (mi ρ1).out fun k ρ2 => match ownGet ρ2 i, k with
  | some (.lst ds), .int n => (match ixN ds.length n with
    | some j => .nx (ownSet ρ2 i (.lst (ds.set j z)))
    | none => .bad)
  | _, _ => .bad
theorem ds_setIx {i : Nat} {x : Str} {px pos' : Pos} {ix : Expr} {me mi : EM} (hv : PE X (.Name x px) (tVar i)) (he : DE X W e me) (hi : DE X W ix mi)
    (ha : ∀ v, assign (.Subscript (.Name x px) ix pos') X.env v = (do
      let ov ← holding [v] (eval (.Name x px) X.env)
      let iv ← holding [v, ov] (eval ix X.env)
      standAt pos'
      holding [v, ov, iv] (setItem ov iv v)
      release [v, ov, iv] []) := by intro _; rfl)
    (hs : swapsWithSole [.Subscript (.Name x px) ix pos'] e pos.line X.env = pure false := by rfl) (hw : swappedStores [.Subscript (.Name x px) ix pos'] e X.env = pure none := by rfl)
    (h1 : (assignEach [.Subscript (.Name x px) ix pos'] X.env).map (·.2) = [assign (.Subscript (.Name x px) ix pos') X.env] := by rfl) :
    DS X W (.Assign [.Subscript (.Name x px) ix pos'] e pos) (sSetIx i me mi) := by
  obtain ⟨t, p, s⟩ := he
  obtain ⟨t2, p2, s2⟩ := hi
  refine ⟨_, ps_asg p (pg_sub hv p2 set_list ha) hs hw h1, fun B M H ρ σ E r h => s B M H ρ σ _ r (PostS.out h fun z ρ1 M1 H1 zv x1 r1 q1 k1 => ?_)⟩
  cases e0 : ownGet ρ1 i with
  | none => rw [e0] at k1; exact k1.elim
  | some d0 =>
    rw [e0] at k1
    obtain ⟨a, sl, hi, ho, hv1, w, _⟩ := own_at r1 e0
    refine ⟨_, hv1, s2 B M1 H1 ρ1 σ _ r1 (PostS.out (α := D) (f := fun k ρ2 => match ownGet ρ2 i, k with
      | some (.lst ds), .int n => (match ixN ds.length n with
        | some j => .nx (ownSet ρ2 i (.lst (ds.set j z)))
        | none => .bad)
      | _, _ => .bad) k1 fun kd ρ2 M2 H2 kv x2 r2 q2 k2 => ?_)⟩
    cases e1 : ownGet ρ2 i with
    | none => simp only [e1] at k2; exact k2.elim
    | some d =>
      obtain ⟨a', sl', hi', ho', hv', w', es'⟩ := own_at r2 e1
      rw [hv1] at hv'
      cases hv'
      cases d with
      | lst ds =>
        cases kd with
        | int n =>
          simp only [e1] at k2
          cases ej : ixN ds.length n with
          | none => simp only [ej] at k2; exact k2.elim
          | some j =>
            simp only [ej] at k2
            obtain ⟨m, l, vs, hH, q⟩ := w'
            cases q2
            refine ⟨a, vs, n, j, rfl, rfl, hH, by rw [← q.length]; exact ej, ?_⟩
            have hx : Ext M2 H2 M2 (upd H2 a (.lst (vs.set j zv))) := Ext.write m hH fun z => z
            refine k2 M2 _ σ hx ?_
            rw [es']
            exact r2.mutate (d' := .lst (ds.set j z)) hi' ho' hv1 ⟨m, by simpa using l, _, upd_same, RpL.ext hx (RpL.set (Rp.ext x2 q1) j q)⟩ rfl
        | _ => simp only [e1] at k2; exact k2.elim
      | _ => simp only [e1] at k2; exact k2.elim
end
end NV

set_option Elab.async false
set_option linter.all false
set_option maxRecDepth 100000
set_option maxHeartbeats 4000000
/-! Core5: targets, what is walked, for, comprehensions, while. -/
namespace NV
open PySem PySem.Spec PyProof.Rows L2

section
variable {X : Cx} {W : WX}
/-! ### targets -/
/-- only the slots vs are stored -/
def Only (vs : List Nat) (σ σ' : St) : Prop := σ'.length = σ.length ∧ ∀ j, j ∉ vs → σ'[j]? = σ[j]?
def DG (X : Cx) (tg : Expr) (g : D → Env → Option Env) (vs : List Nat) : Prop := ∃ t, PG X tg t ∧
  ∀ (B : Base) (M : Addr → Prop) (H : Hp) (ρ ρ' : Env) (σ : St) (d : D) (v : V) (Q : St → Hp → Prop), Rep X.K B M H ρ σ → Rp X.K M H d v → g d ρ = some ρ' → (∀ σ', Rep X.K B M H ρ' σ' → Only vs σ σ' → Q σ' H) → t v σ H Q
def gNm (i : Nat) (d : D) (ρ : Env) : Option Env := some (ρ.set i (.v d))
theorem dg_name {i : Nat} {x : Str} {pos : Pos} (hN : X.N.Nodup) (hi : X.N[i]? = some x) (hx : Loc X.env.scope x) (hf : X.fn x = true ∨ X.env.scope.names.lookup x = some .local := by first | exact .inl rfl | exact .inr rfl | assumption) : DG X (.Name x pos) (gNm i) [i] :=
  ⟨_, pg_name hN hi hx hf, fun B M H ρ ρ' σ d v Q r q e k => by
    cases e
    exact k _ (r.setV i q) ⟨by simp, fun j hj => List.getElem?_set_ne fun e => hj (by simp [e])⟩⟩
def DGs (X : Cx) (tgs : List Expr) (g : List D → Env → Option Env) (us : List Nat) : Prop := ∃ t, PGs X tgs t ∧
  ∀ (B : Base) (M : Addr → Prop) (H : Hp) (ρ ρ' : Env) (σ : St) (ds : List D) (vs : List V) (Q : St → Hp → Prop), Rep X.K B M H ρ σ → RpL X.K M H ds vs → g ds ρ = some ρ' → (∀ σ', Rep X.K B M H ρ' σ' → Only us σ σ' → Q σ' H) → t vs σ H Q
def gsNil (ds : List D) (ρ : Env) : Option Env := match ds with
  | [] => some ρ
  | _ => none
def gsCons (g : D → Env → Option Env) (gs : List D → Env → Option Env) (ds : List D) (ρ : Env) : Option Env := match ds with
  | d :: r => (g d ρ).bind fun ρ1 => gs r ρ1
  | _ => none
theorem dgs_nil : DGs X [] gsNil [] := ⟨_, pgs_nil, fun B M H ρ ρ' σ ds vs Q r q e k => by
  cases ds with
  | nil =>
    cases q
    cases e
    exact ⟨rfl, k _ r ⟨rfl, fun _ _ => rfl⟩⟩
  | cons _ _ => cases e⟩
theorem dgs_cons {e : Expr} {es : List Expr} {g : D → Env → Option Env} {gs : List D → Env → Option Env} {us vs : List Nat} (h : DG X e g us) (hs : DGs X es gs vs) (ha : (assignEach (e :: es) X.env).map (·.2) = assign e X.env :: (assignEach es X.env).map (·.2) := by rfl) : DGs X (e :: es) (gsCons g gs) (us ++ vs) := by
  obtain ⟨t, p, s⟩ := h
  obtain ⟨u, q, s'⟩ := hs
  refine ⟨_, pgs_cons p q ha, fun B M H ρ ρ' σ ds vs Q r rq e k => ?_⟩
  cases ds with
  | nil => cases e
  | cons d ds =>
    cases rq with
    | cons r1 r2 =>
      have e : (g d ρ).bind (fun ρ1 => gs ds ρ1) = some ρ' := e
      cases e1 : g d ρ with
      | none => rw [e1] at e; cases e
      | some ρ1 =>
        rw [e1] at e
        exact ⟨_, _, rfl, s B M H ρ ρ1 σ d _ _ r r1 e1 fun σ1 rr o1 => s' B M H ρ1 ρ' σ1 ds _ Q rr r2 e fun σ2 rr2 o2 => k σ2 rr2 ⟨o2.1.trans o1.1, fun j hj => by
          rw [List.mem_append, not_or] at hj
          exact (o2.2 j hj.2).trans (o1.2 j hj.1)⟩⟩
def gTp (n : Nat) (gs : List D → Env → Option Env) (d : D) (ρ : Env) : Option Env := match d with
  | .tup ds => if ds.length = n then gs ds ρ else none
  | _ => none
theorem dg_tup {es : List Expr} {k : Nat} {gs : List D → Env → Option Env} {n : Nat} {vs : List Nat} {pos : Pos} (c : Cd X) (h : DGs X es gs vs) (hn : (assignEach es X.env).length = n := by rfl) (hst : (assignEach es X.env).findIdx? (·.1) = none := by rfl) : DG X (.Tuple es k pos) (gTp n gs) vs := by
  obtain ⟨t, p, s⟩ := h
  refine ⟨_, pg_tup c.calm p hn hst, fun B M H ρ ρ' σ d v Q r q e k => ?_⟩
  unfold gTp at e
  split at e
  · split at e
    · rename_i hl
      cases q with
      | tup l h1 h2 => exact ⟨_, _, rfl, h1, by rw [← h2.length]; exact hl, s B M H ρ ρ' σ _ _ Q r h2 e k⟩
    · cases e
  · cases e
def sAsg (m : EM) (g : D → Env → Option Env) : SM := fun ρ => (m ρ).out fun d ρ1 => match g d ρ1 with
  | some ρ2 => .nx ρ2
  | none => .bad
theorem ds_asg {tg e : Expr} {m : EM} {g : D → Env → Option Env} {vs : List Nat} {pos : Pos} (he : DE X W e m) (hg : DG X tg g vs) (hs : swapsWithSole [tg] e pos.line X.env = pure false := by rfl) (hw : swappedStores [tg] e X.env = pure none := by rfl)
    (h1 : (assignEach [tg] X.env).map (·.2) = [assign tg X.env] := by rfl) : DS X W (.Assign [tg] e pos) (sAsg m g) := by
  obtain ⟨t, p, s⟩ := he
  obtain ⟨u, q, s'⟩ := hg
  refine ⟨_, ps_asg p q hs hw h1, fun B M H ρ σ E r h => s B M H ρ σ _ r (PostS.out h fun d ρ1 M1 H1 v x1 r1 q1 k1 => ?_)⟩
  cases e1 : g d ρ1 with
  | none => simp only [e1] at k1; exact k1.elim
  | some ρ2 =>
    simp only [e1] at k1
    exact s' B M1 H1 ρ1 ρ2 σ d v _ r1 q1 e1 fun σ' rr _ => k1 M1 H1 σ' Ext.refl rr
/-- a, b = x, y -/
def sPar (i j : Nat) (m : Env → Res (List D)) : SM := fun ρ => (m ρ).out fun ds ρ1 => match ds with
  | [d, e] => .nx ((ρ1.set i (.v d)).set j (.v e))
  | _ => .bad
theorem ds_par {i j : Nat} {x y : Str} {a b : Expr} {m : Env → Res (List D)} {px py pt pos : Pos} {kt k2 pt2} (c : Cd X) (hN : X.N.Nodup) (hi : X.N[i]? = some x) (hj : X.N[j]? = some y) (hij : i ≠ j)
    (hx : X.env.scope.names.lookup x = some .local) (hy : X.env.scope.names.lookup y = some .local) (ha : DL X W [a, b] m)
    (hw : swappedStores [.Tuple [.Name x px, .Name y py] kt pt] (.Tuple [a, b] k2 pt2) X.env = pure (some [x, y]))
    (hs : swapsWithSole [.Tuple [.Name x px, .Name y py] kt pt] (.Tuple [a, b] k2 pt2) pos.line X.env = pure false := by rfl) :
    DS X W (.Assign [.Tuple [.Name x px, .Name y py] kt pt] (.Tuple [a, b] k2 pt2) pos) (sPar i j m) := by
  obtain ⟨t, p, s⟩ := ha
  refine ⟨_, ps_par c.calm hN hi hj hij hx hy p hw hs, fun B M H ρ σ E r h => s B M H ρ σ _ r (PostS.out h fun ds ρ1 M1 H1 vs x1 r1 q1 k1 => ?_)⟩
  match ds, q1, k1 with
  | [], _, k1 => exact k1.elim
  | [d], _, k1 => exact k1.elim
  | [d, e], q1, k1 =>
    cases q1 with
    | cons a1 q2 =>
      cases q2 with
      | cons a2 q3 =>
        cases q3
        exact ⟨_, _, rfl, k1 M1 H1 _ Ext.refl ((r1.setV i a1).setV j a2)⟩
  | _ :: _ :: _ :: _, _, k1 => exact k1.elim
def sPar3 (i j l : Nat) (m : Env → Res (List D)) : SM := fun ρ => (m ρ).out fun ds ρ1 => match ds with
  | [d, e, f] => .nx (((ρ1.set i (.v d)).set j (.v e)).set l (.v f))
  | _ => .bad
theorem ds_par3 {i j l : Nat} {x y z : Str} {a b c : Expr} {m : Env → Res (List D)} {px py pz pt pos : Pos} {kt k2 pt2} (cd : Cd X) (hN : X.N.Nodup) (hi : X.N[i]? = some x) (hj : X.N[j]? = some y) (hl : X.N[l]? = some z) (hij : i ≠ j) (hil : i ≠ l) (hjl : j ≠ l)
    (hx : X.env.scope.names.lookup x = some .local) (hy : X.env.scope.names.lookup y = some .local) (hz : X.env.scope.names.lookup z = some .local) (ha : DL X W [a, b, c] m)
    (hw : swappedStores [.Tuple [.Name x px, .Name y py, .Name z pz] kt pt] (.Tuple [a, b, c] k2 pt2) X.env = pure (some [x, y, z]))
    (hs : swapsWithSole [.Tuple [.Name x px, .Name y py, .Name z pz] kt pt] (.Tuple [a, b, c] k2 pt2) pos.line X.env = pure false := by rfl) :
    DS X W (.Assign [.Tuple [.Name x px, .Name y py, .Name z pz] kt pt] (.Tuple [a, b, c] k2 pt2) pos) (sPar3 i j l m) := by
  obtain ⟨t, p, s⟩ := ha
  refine ⟨_, ps_par3 cd.calm hN hi hj hl hij hil hjl hx hy hz p hw hs, fun B M H ρ σ E r h => s B M H ρ σ _ r (PostS.out h fun ds ρ1 M1 H1 vs x1 r1 q1 k1 => ?_)⟩
  match ds, q1, k1 with
  | [], _, k1 => exact k1.elim
  | [d], _, k1 => exact k1.elim
  | [d, e], _, k1 => exact k1.elim
  | [d, e, f], q1, k1 =>
    cases q1 with
    | cons a1 q2 =>
      cases q2 with
      | cons a2 q3 =>
        cases q3 with
        | cons a3 q4 =>
          cases q4
          exact ⟨_, _, _, rfl, k1 M1 H1 _ Ext.refl (((r1.setV i a1).setV j a2).setV l a3)⟩
  | _ :: _ :: _ :: _ :: _, _, k1 => exact k1.elim

/-! ### what is walked -/
/-- the iterator yields ds, whatever the heap has become meanwhile -/
def ItOk (K : PySem.W.Frag) (M0 : Addr → Prop) (H0 : Hp) (J : It) (ds : List D) : Prop :=
  ∀ (M : Addr → Prop) (H : Hp), Ext M0 H0 M H → (∀ i, ds.length ≤ i → J.stop i H) ∧ ∀ i d, ds[i]? = some d → J.go i H ∧ ∀ x H', J.yld i H x H' → (∀ b o, H b = some o → H' b = some o) ∧ Rp K M H' d x
def DI (X : Cx) (W : WX) (tg e : Expr) (mi : Env → Res (List D)) : Prop := ∃ wi, PI X tg e wi ∧
  ∀ (B : Base) (M : Addr → Prop) (H : Hp) (ρ : Env) (σ : St) (Q : It → Hp → Prop), Rep X.K B M H ρ σ → Post X B W (fun M' H' _ ds J => ItOk X.K M' H' J ds ∧ ds.length ≤ sizeLine) M H σ (mi ρ) Q → wi σ H Q
/-- a list, a tuple, a text -/
def iAny (K : PySem.W.Frag) (te : TE) : TI := fun σ H R => te σ H fun x H1 => (∃ a, x = .ref a ∧ (∃ xs, SqL K H1 a xs) ∧ R (Itl K a) H1) ∨ ((∃ a, x = .ref a ∧ (∃ xs, SqT K H1 a xs) ∧ R (Itt K a) H1) ∨ ∃ z, x = .str z ∧ R (Its z) H1)
theorem pi_any {tg l : Expr} {tl : TE} (hl : PE X l tl) : PI X tg l (iAny X.K tl) := by
  refine ⟨fun pins s σ H R I h => ?_⟩
  refine thn (hl.run pins s σ H _ I h) fun v s1 ⟨x, H1, I1, r1, q1⟩ => ?_
  rcases q1 with ⟨a, e, ⟨xs, hq⟩, q⟩ | ⟨a, e, ⟨xs, hq⟩, q⟩ | ⟨z, e, q⟩
  · subst e
    cases r1
    obtain ⟨its, rv, p, hz⟩ := I1.list hq
    refine wpAny_pyIter_list p.isList ?_
    refine ⟨s1.heap.objs.size, [s1.heap.objs.size], _, _, H1, rfl, I1.kept (t' := s1.toks) fun b o e => Heap.get?_push_of_some _ e, turn_list a _, ⟨_, Heap.get?_push_size _ rfl, rfl, rfl⟩, fun b hb => ?_, q⟩
    have e : b = s1.heap.objs.size := by simpa using hb
    subst e
    exact I1.fpOk (Nat.le_refl _) (I1.hok.fresh (Nat.le_refl _))
  · subst e
    cases r1
    obtain ⟨its, rv, p, hz⟩ := I1.tuple hq
    refine wpAny_pyIter_tuple (show s1.heap.IsTuple a its.toArray from p) ?_
    refine ⟨s1.heap.objs.size, [s1.heap.objs.size], _, _, H1, rfl, I1.kept (t' := s1.toks) fun b o e => Heap.get?_push_of_some _ e, turn_tuple a _, ⟨_, Heap.get?_push_size _ rfl, rfl, rfl⟩, fun b hb => ?_, q⟩
    have e : b = s1.heap.objs.size := by simpa using hb
    subst e
    exact I1.fpOk (Nat.le_refl _) (I1.hok.fresh (Nat.le_refl _))
  · subst e
    obtain ⟨t, rfl⟩ := r1
    cases ha : z.cps.all (· < 128)
    · exact wpAny_pyIter_wide ha (pi_one (tk := s1.toks) I1 _ (turn_str _ z t "str_iterator" (.inr rfl)) ⟨_, Heap.get?_push_size _ rfl, rfl, rfl⟩ q)
    · exact wpAny_pyIter_ascii ha (pi_one (tk := s1.toks) I1 _ (turn_str _ z t "str_ascii_iterator" (.inl rfl)) ⟨_, Heap.get?_push_size _ rfl, rfl, rfl⟩ q)
def itemsD : D → Option (List D)
  | .tup ds => some ds
  | .lst ds => some ds
  | .scr xs => some (xs.map .int)
  | .str z => some (z.cps.toList.map fun c => .str ⟨#[c]⟩)
  | _ => none
def iVal (m : EM) : Env → Res (List D) := fun ρ => (m ρ).bind fun d ρ1 => ofO (itemsD d) ρ1
theorem itOk_list {K : PySem.W.Frag} {M : Addr → Prop} {H : Hp} {a : Addr} {ds : List D} {vs : List V} (h : H a = some (.lst vs)) (n : ¬ M a) (r : RpL K M H ds vs) : ItOk K M H (Itl K a) ds := fun M' H' x => by
  have h' : SqL K H' a vs := SqL.of (x _ _ h (.inl n)).1
  refine ⟨fun i hi => ⟨vs, h', by rw [← r.length]; exact hi⟩, fun i d hd => ?_⟩
  obtain ⟨v, hv, rv⟩ := r.get hd
  refine ⟨⟨vs, v, h', hv⟩, fun y H2 ⟨e, hy⟩ => ?_⟩
  subst e
  have e2 := hy vs h'
  rw [hv] at e2
  cases e2
  exact ⟨fun _ _ z => z, Rp.ext x rv⟩
theorem itOk_tuple {K : PySem.W.Frag} {M : Addr → Prop} {H : Hp} {a : Addr} {ds : List D} {vs : List V} (h : SqT K H a vs) (r : RpL K M H ds vs) : ItOk K M H (Itt K a) ds := fun M' H' x => by
  have h' : SqT K H' a vs := x.sqT h
  refine ⟨fun i hi => ⟨vs, h', by rw [← r.length]; exact hi⟩, fun i d hd => ?_⟩
  obtain ⟨v, hv, rv⟩ := r.get hd
  refine ⟨⟨vs, v, h', hv⟩, fun y H2 ⟨e, hy⟩ => ?_⟩
  subst e
  have e2 := hy vs h'
  rw [hv] at e2
  cases e2
  exact ⟨fun _ _ z => z, Rp.ext x rv⟩
theorem itOk_scr {K : PySem.W.Frag} {M : Addr → Prop} {H : Hp} {a : Addr} {xs : List Int} (h : SqS K H a xs) : ItOk K M H (Itl K a) (xs.map .int) := fun M' H' x => by
  have h' : SqL K H' a (xs.map V.int) := (x.sqS h).sql
  refine ⟨fun i hi => ⟨_, h', by rw [List.length_map] at hi ⊢; exact hi⟩, fun i d hd => ?_⟩
  rw [List.getElem?_map] at hd
  cases e : xs[i]? with
  | none => rw [e] at hd; cases hd
  | some n =>
    rw [e] at hd
    cases hd
    have hv : (xs.map V.int)[i]? = some (.int n) := by rw [List.getElem?_map, e]; rfl
    refine ⟨⟨_, _, h', hv⟩, fun y H2 ⟨e, hy⟩ => ?_⟩
    subst e
    have e2 := hy _ h'
    rw [hv] at e2
    cases e2
    exact ⟨fun _ _ z => z, .int n⟩
theorem itOk_str {K : PySem.W.Frag} {M : Addr → Prop} {H : Hp} {z : Str} (g : StrG z) : ItOk K M H (Its z) (z.cps.toList.map fun c => .str ⟨#[c]⟩) := fun M' H' x => by
  refine ⟨fun i hi => by rw [List.length_map, Array.length_toList] at hi; exact hi, fun i d hd => ?_⟩
  rw [List.getElem?_map] at hd
  cases e : z.cps.toList[i]? with
  | none => rw [e] at hd; cases hd
  | some c =>
    rw [e] at hd
    cases hd
    have e3 : z.cps[i]? = some c := by rw [← e]; simp
    refine ⟨by have := (List.getElem?_eq_some_iff.mp e).1; rw [Array.length_toList] at this; exact this, fun y H2 ⟨e1, c', hc, hy⟩ => ?_⟩
    rw [e3] at hc
    cases hc
    subst e1 hy
    exact ⟨fun _ _ z => z, .str (strG_sub (z := z) g (by
      show 1 ≤ _
      exact Nat.lt_of_le_of_lt (Nat.zero_le i) (List.getElem?_eq_some_iff.mp e).1) fun c2 h2 => by
        have : c2 = c := by simpa using h2
        rw [this]; exact List.mem_of_getElem? e)⟩
theorem di_val {tg e : Expr} {m : EM} (h : DE X W e m) : DI X W tg e (iVal m) := by
  obtain ⟨t, p, s⟩ := h
  refine ⟨_, pi_any p, fun B M H ρ σ Q rp k => s B M H ρ σ _ rp (Post.seq k fun d ρ1 M1 H1 v x1 r1 q1 k1 => ?_)⟩
  cases d with
  | tup ds =>
    cases q1 with
    | tup l h1 h2 => exact .inr (.inl ⟨_, rfl, ⟨_, h1⟩, k1 M1 H1 _ Ext.refl r1 ⟨itOk_tuple h1 h2, l⟩⟩)
  | lst ds =>
    cases q1 with
    | lst l n h1 h2 => exact .inl ⟨_, rfl, ⟨_, SqL.of h1⟩, k1 M1 H1 _ Ext.refl r1 ⟨itOk_list h1 n h2, l⟩⟩
  | scr xs =>
    cases q1 with
    | scr l h1 => exact .inl ⟨_, rfl, ⟨_, h1.sql⟩, k1 M1 H1 _ Ext.refl r1 ⟨itOk_scr h1, by rw [List.length_map]; exact l⟩⟩
  | str z =>
    cases q1 with
    | str g => exact .inr (.inr ⟨_, rfl, k1 M1 H1 _ Ext.refl r1 ⟨itOk_str g, by rw [List.length_map, Array.length_toList]; exact g.1⟩⟩)
  | _ => exact k1.elim
def rngD (lo : Int) (n : Nat) : List D := (List.range n).map fun i => .int (lo + (i : Nat))
theorem itOk_rng {K : PySem.W.Frag} {M : Addr → Prop} {H : Hp} {lo : Int} {n : Nat} : ItOk K M H (Itr lo n) (rngD lo n) := fun M' H' x => by
  refine ⟨fun i hi => by unfold rngD at hi; rw [List.length_map, List.length_range] at hi; exact hi, fun i d hd => ?_⟩
  unfold rngD at hd
  rw [List.getElem?_map] at hd
  cases e : (List.range n)[i]? with
  | none => rw [e] at hd; cases hd
  | some j =>
    rw [e] at hd
    cases hd
    obtain ⟨hl, ej⟩ := List.getElem?_eq_some_iff.mp e
    rw [List.getElem_range] at ej
    subst ej
    refine ⟨by rw [List.length_range] at hl; exact hl, fun y H2 ⟨e1, hy⟩ => ?_⟩
    subst e1 hy
    exact ⟨fun _ _ z => z, .int _⟩
def rng1 (d : D) : Option (List D) := match d with
  | .int j => if j ≤ 16777216 ∧ -(2 ^ 62) ≤ j then some (rngD 0 j.toNat) else none
  | _ => none
def rng2 (d e : D) : Option (List D) := match d, e with
  | .int i, .int j => if -(2 ^ 62) ≤ i ∧ i < 2 ^ 62 ∧ -(2 ^ 62) ≤ j ∧ j < 2 ^ 62 ∧ j - i ≤ 16777216 then some (rngD i (j - i).toNat) else none
  | _, _ => none
def iRange1 (m : EM) : Env → Res (List D) := fun ρ => (m ρ).bind fun d ρ1 => ofO (rng1 d) ρ1
def iRange2 (m1 m2 : EM) : Env → Res (List D) := fun ρ => (m1 ρ).bind fun d ρ1 => (m2 ρ1).bind fun e ρ2 => ofO (rng2 d e) ρ2
theorem di_range1 {tg a : Expr} {m : EM} {p pos : Pos} (hg : Gl X "range") (hm : X.mg "range" = none) (h : DE X W a m) (hs : starEach [a] X.env = [(false, eval a X.env)] := by rfl) (hs2 : starEach [a] X.env = (false, eval a X.env) :: starEach [] X.env := by rfl) : DI X W tg (.Call (.Name "range" p) [a] [] pos) (iRange1 m) := by
  obtain ⟨t, pt, s⟩ := h
  refine ⟨_, pi_range1 hg hm (pa_cons pt pa_nil hs2) hs, fun B M H ρ σ Q rp k => s B M H ρ σ _ rp (Post.seq k fun d ρ1 M1 H1 v x1 r1 q1 k1 => ?_)⟩
  cases d with
  | int j =>
    cases q1
    unfold rng1 at k1
    simp only at k1
    split at k1
    · rename_i hc
      exact ⟨j, rfl, hc.2, by omega, k1 M1 H1 _ Ext.refl r1 ⟨itOk_rng, by unfold rngD; rw [List.length_map, List.length_range, sizeLine_eq]; omega⟩⟩
    · exact k1.elim
  | _ => exact k1.elim
theorem di_range2 {tg a b : Expr} {m1 m2 : EM} {p pos : Pos} (hg : Gl X "range") (hm : X.mg "range" = none) (h : DE X W a m1) (h2 : DE X W b m2) (hs : starEach [a, b] X.env = [(false, eval a X.env), (false, eval b X.env)] := by rfl) (hs2 : starEach [b] X.env = [(false, eval b X.env)] := by rfl)
    (hs3 : starEach [a, b] X.env = (false, eval a X.env) :: starEach [b] X.env := by rfl) (hs4 : starEach [b] X.env = (false, eval b X.env) :: starEach [] X.env := by rfl) : DI X W tg (.Call (.Name "range" p) [a, b] [] pos) (iRange2 m1 m2) := by
  obtain ⟨t, pt, s⟩ := h
  obtain ⟨t2, pt2, s2⟩ := h2
  refine ⟨_, pi_range2 hg hm (pa_cons pt (pa_cons pt2 pa_nil hs4) hs3) hs hs2, fun B M H ρ σ Q rp k => s B M H ρ σ _ rp (Post.seq k fun d ρ1 M1 H1 v x1 r1 q1 k1 => ?_)⟩
  refine s2 B M1 H1 ρ1 σ _ r1 (Post.seq k1 fun e ρ2 M2 H2 v2 x2 r2 q2 k2 => ?_)
  cases d with
  | int i =>
    cases e with
    | int j =>
      cases q1
      cases q2
      unfold rng2 at k2
      simp only at k2
      split at k2
      · rename_i hc
        exact ⟨i, j, rfl, ⟨hc.1, hc.2.1, hc.2.2.1, hc.2.2.2.1⟩, k2 M2 H2 _ Ext.refl r2 ⟨itOk_rng, by unfold rngD; rw [List.length_map, List.length_range, sizeLine_eq]; omega⟩⟩
      · exact k2.elim
    | _ => exact k2.elim
  | _ => exact k2.elim

/-! ### for -/
def forL (g : D → Env → Option Env) (body : SM) : List D → SM
  | [], ρ => .nx ρ
  | d :: ds, ρ => match g d ρ with
    | none => .bad
    | some ρ1 => match body ρ1 with
      | .nx ρ2 => forL g body ds ρ2
      | .ct ρ2 => forL g body ds ρ2
      | .bk ρ2 => .nx ρ2
      | o => o
def sFor (mi : Env → Res (List D)) (g : D → Env → Option Env) (body : SM) : SM := fun ρ => (mi ρ).out fun ds ρ1 => forL g body ds ρ1
theorem ds_for {tg iter : Expr} {body : List Stmt} {mi : Env → Res (List D)} {g : D → Env → Option Env} {mb : SM} {vs : List Nat} {pos : Pos} (c : Cd X) (hp : PassesOwn (model X.prog X.w) X.A X.env X.xe) (hi : DI X W tg iter mi) (hg : DG X tg g vs) (hb : DSs X W body mb)
    (hs : ∀ x, foldedSetIterable iter X.env x = pure x := by intro _; rfl) : DS X W (.For tg iter body [] pos) (sFor mi g mb) := by
  obtain ⟨wi, pi, si⟩ := hi
  obtain ⟨tg', pg, sg⟩ := hg
  obtain ⟨tb, pb, sb⟩ := hb
  refine ⟨_, ps_for hp c.calm pi pg pb hs, fun B M H ρ σ E r h => si B M H ρ σ _ r (PostS.out (α := List D) (β := It) h fun ds ρ1 M1 H1 J x1 r1 q1 k1 => ?_)⟩
  refine ⟨fun i n σ' H' => n = ds.length - i ∧ ∃ M' ρ', Ext M1 H1 M' H' ∧ Rep X.K B M' H' ρ' σ' ∧ PostS X B W M' H' (forL g mb (ds.drop i) ρ') E, ⟨_, rfl, M1, ρ1, Ext.refl, r1, k1⟩, ?_⟩
  rintro i n σ2 H2 ⟨rfl, M2, ρ2, x2, r2, k2⟩
  obtain ⟨stop, go⟩ := q1.1 M2 H2 x2
  cases hd : ds[i]? with
  | none =>
    have hl : ds.length ≤ i := List.getElem?_eq_none_iff.mp hd
    rw [List.drop_eq_nil_of_le hl] at k2
    exact .inl ⟨stop i hl, k2 M2 H2 σ2 Ext.refl r2⟩
  | some d =>
    obtain ⟨hl, e⟩ := List.getElem?_eq_some_iff.mp hd
    rw [List.drop_eq_getElem_cons hl, e] at k2
    obtain ⟨g1, yl⟩ := go i d hd
    refine .inr ⟨g1, fun σ' H' => ∃ M' ρ', Ext M1 H1 M' H' ∧ Rep X.K B M' H' ρ' σ' ∧ PostS X B W M' H' (forL g mb (ds.drop (i + 1)) ρ') E, fun σ' H' z => ⟨ds.length - (i + 1), by omega, rfl, z⟩, fun x H3 hy => ?_⟩
    obtain ⟨keep, rx⟩ := yl x H3 hy
    have xk : Ext M2 H2 M2 H3 := fun b o eb _ => ⟨keep b o eb, fun n => n⟩
    have r3 : Rep X.K B M2 H3 ρ2 σ2 := r2.grow xk keep (fun _ z => z) (fun _ z => .inl z) fun b z => by
      cases q : H2 b with
      | none => exact absurd q (r2.trk b z)
      | some o => rw [keep b o q]; simp
    unfold forL at k2
    cases eg : g d ρ2 with
    | none => simp only [eg] at k2; exact k2.elim
    | some ρ3 =>
      simp only [eg] at k2
      refine sg B M2 H3 ρ2 ρ3 σ2 d x _ r3 rx eg fun σ3 r4 _ => sb B M2 H3 ρ3 σ3 _ r4 ?_
      have k3 := PostS.shift xk k2
      have next : ∀ ρ4, PostS X B W M2 H3 (forL g mb (ds.drop (i + 1)) ρ4) E → ∀ (M' : Addr → Prop) (H' : Hp) (σ' : St), Ext M2 H3 M' H' → Rep X.K B M' H' ρ4 σ' →
          ∃ M' ρ', Ext M1 H1 M' H' ∧ Rep X.K B M' H' ρ' σ' ∧ PostS X B W M' H' (forL g mb (ds.drop (i + 1)) ρ') E := fun ρ4 k4 M' H' σ' x4 r5 => ⟨M', ρ4, x2.trans (xk.trans x4), r5, PostS.shift x4 k4⟩
      cases em : mb ρ3 with
      | nx ρ4 => rw [em] at k3; exact next ρ4 k3
      | ct ρ4 => rw [em] at k3; exact next ρ4 k3
      | bk ρ4 => rw [em] at k3; exact k3
      | rt d' ρ4 => rw [em] at k3; exact k3
      | rtF d' ρ4 => rw [em] at k3; exact k3
      | exc x' ρ4 => rw [em] at k3; exact k3
      | bad => rw [em] at k3; exact k3

/-! ### while -/
def whileL (c : TM) (body : SM) : Nat → SM
  | 0, _ => .bad
  | n + 1, ρ => match c ρ with
    | .bad => .bad
    | .exc x ρ1 => .exc x ρ1
    | .ok false ρ1 => .nx ρ1
    | .ok true ρ1 => match body ρ1 with
      | .nx ρ2 => whileL c body n ρ2
      | .ct ρ2 => whileL c body n ρ2
      | .bk ρ2 => .nx ρ2
      | o => o
theorem ds_while {test : Expr} {body : List Stmt} {mc : TM} {mb : SM} {pos : Pos} (n : Nat) (hp : PassesOwn (model X.prog X.w) X.A X.env X.xe) (hc : DT X W test mc) (hb : DSs X W body mb) : DS X W (.While test body [] pos) (whileL mc mb n) := by
  obtain ⟨tc, pc, sc⟩ := hc
  obtain ⟨tb, pb, sb⟩ := hb
  refine ⟨_, ps_while hp pc pb, fun B M H ρ σ E r h => ?_⟩
  refine ⟨fun k σ' H' => ∃ M' ρ', Rep X.K B M' H' ρ' σ' ∧ PostS X B W M' H' (whileL mc mb k ρ') E, ⟨n, M, ρ, r, h⟩, ?_⟩
  rintro k σ2 H2 ⟨M2, ρ2, r2, k2⟩
  cases k with
  | zero => exact k2.elim
  | succ k =>
    unfold whileL at k2
    refine sc B M2 H2 ρ2 σ2 _ r2 ?_
    cases ec : mc ρ2 with
    | bad => rw [ec] at k2; exact k2
    | exc x ρ3 => rw [ec] at k2; exact fun M' H' c dx x' r' q => k2 M' H' σ2 c dx x' r' q
    | ok b ρ3 =>
      rw [ec] at k2
      intro M3 H3 b' x3 r3 eb
      cases eb
      cases b with
      | false => exact iteF (k2 M3 H3 σ2 x3 r3)
      | true =>
        refine iteT ⟨fun σ' H' => ∃ M' ρ', Rep X.K B M' H' ρ' σ' ∧ PostS X B W M' H' (whileL mc mb k ρ') E, fun σ' H' z => ⟨k, Nat.lt_succ_self k, z⟩, sb B M3 H3 ρ3 σ2 _ r3 ?_⟩
        have k3 := PostS.shift x3 k2
        simp only at k3
        cases em : mb ρ3 with
        | nx ρ4 => rw [em] at k3; exact fun M' H' σ' x4 r5 => ⟨M', ρ4, r5, PostS.shift x4 k3⟩
        | ct ρ4 => rw [em] at k3; exact fun M' H' σ' x4 r5 => ⟨M', ρ4, r5, PostS.shift x4 k3⟩
        | bk ρ4 => rw [em] at k3; exact k3
        | rt d' ρ4 => rw [em] at k3; exact k3
        | rtF d' ρ4 => rw [em] at k3; exact k3
        | exc x' ρ4 => rw [em] at k3; exact k3
        | bad => rw [em] at k3; exact k3
end
end NV

set_option Elab.async false
set_option linter.all false
set_option maxRecDepth 100000
set_option maxHeartbeats 4000000
/-! Core6: comprehensions. -/
namespace NV
open PySem PySem.Spec PyProof.Rows L2

/-! ### one reading for all blocks -/
section
variable {X : Cx} {W : WX}
def tCan (X : Cx) (W : WX) (m : EM) : TE := fun σ H Q => ∃ B M ρ, Rep X.K B M H ρ σ ∧ Post X B W (RelE X.K) M H σ (m ρ) Q
def ttCan (X : Cx) (W : WX) (m : TM) : TT := fun σ H Q => ∃ B M ρ, Rep X.K B M H ρ σ ∧ Post X B W RelT M H σ (m ρ) Q
def tgCan (X : Cx) (g : D → Env → Option Env) (vs : List Nat) : TG := fun v σ H Q => ∃ B M ρ ρ' d, Rep X.K B M H ρ σ ∧ Rp X.K M H d v ∧ g d ρ = some ρ' ∧ ∀ σ', Rep X.K B M H ρ' σ' → Only vs σ σ' → Q σ' H
theorem can_e {e : Expr} {m : EM} (h : DE X W e m) : PE X e (tCan X W m) := by
  obtain ⟨t, p, s⟩ := h
  exact ⟨fun pins s' σ H Q I ⟨B, M, ρ, r, k⟩ => p.run pins s' σ H Q I (s B M H ρ σ Q r k)⟩
theorem can_t {e : Expr} {m : TM} (h : DT X W e m) : PT X e (ttCan X W m) := by
  obtain ⟨t, p, s⟩ := h
  exact ⟨fun pins s' σ H Q I ⟨B, M, ρ, r, k⟩ => p.run pins s' σ H Q I (s B M H ρ σ Q r k)⟩
theorem can_g {e : Expr} {g : D → Env → Option Env} {vs : List Nat} (h : DG X e g vs) : PG X e (tgCan X g vs) := by
  obtain ⟨t, p, s⟩ := h
  exact ⟨fun pins s' σ H v u Q I rv ⟨B, M, ρ, ρ', d, r, q, e, k⟩ => p.run pins s' σ H v u Q I rv (s B M H ρ ρ' σ d v Q r q e k)⟩
/-- a clause's tests -/
def DTs (X : Cx) (W : WX) (ifs : List Expr) (m : TM) : Prop := PTs X ifs (ttCan X W m)
def tYesM : TM := fun ρ => .ok true ρ
theorem dts_nil : DTs X W [] tYesM := ⟨fun pins s σ H Q I ⟨B, M, ρ, r, k⟩ => wpAny_tests_nil ⟨H, I, k M H true Ext.refl r rfl⟩⟩
theorem dts_one {c : Expr} {m : TM} (h : DT X W c m) : DTs X W [c] m := pts_one (can_t h)
end

/-! ### the block's own names -/
def wipeE (ρ : Env) : List Nat → Env
  | [] => ρ
  | v :: vs => (wipeE ρ vs).set v .no
def keepV : Slot → Slot
  | .v d => .v d
  | _ => .no
/-- .. as they were ahead of it -/
def backE (ρ1 : Env) : List Nat → Env → Env
  | [], ρ => ρ
  | v :: vs, ρ => (backE ρ1 vs ρ).set v (keepV (ρ1[v]?.getD .no))
def backS (σ1 : St) : List Nat → St → St
  | [], σ => σ
  | v :: vs, σ => (backS σ1 vs σ).set v (σ1[v]?.join)
section
variable {K : PySem.W.Frag} {B : Base} {M M' : Addr → Prop} {H H' : Hp} {ρ ρ1 : Env} {σ σ1 : St}
theorem Rep.wipe (r : Rep K B M H ρ σ) : ∀ vs : List Nat, Rep K B M H (wipeE ρ vs) (wipe σ vs)
  | [] => r
  | v :: vs => (r.wipe vs).setNo v none
theorem wipe_ext {σ σ2 : St} {vs : List Nat} (h : Only vs (L2.wipe σ vs) σ2) : L2.wipe σ2 vs = L2.wipe σ vs := by
  obtain ⟨hl, h⟩ := h
  rw [wipe_length] at hl
  have at_ : ∀ (s : St) (us : List Nat) (j : Nat), (L2.wipe s us)[j]? = if j ∈ us then (if j < s.length then some none else none) else s[j]? := by
    intro s us j
    induction us with
    | nil => simp [L2.wipe]
    | cons u us ih =>
      unfold L2.wipe
      by_cases e : j = u
      · subst e
        by_cases hj : j < s.length
        · rw [List.getElem?_set_self (by rw [wipe_length]; exact hj)]
          simp [hj]
        · rw [List.getElem?_eq_none (by simp [wipe_length]; omega)]
          simp [hj]
      · rw [List.getElem?_set_ne (Ne.symm e), ih]
        simp [e]
  apply List.ext_getElem?
  intro j
  rw [at_, at_]
  by_cases hj : j ∈ vs
  · rw [if_pos hj, if_pos hj, hl]
  · rw [if_neg hj, if_neg hj, h j hj, at_, if_neg hj]
theorem back_wipe {σ : St} : ∀ vs : List Nat, backS σ vs (L2.wipe σ vs) = σ := by
  intro vs
  have at_ : ∀ (s : St) (us : List Nat), (∀ j, j ∉ us → s[j]? = σ[j]?) → s.length = σ.length → (backS σ us s).length = σ.length ∧ ∀ j, (backS σ us s)[j]? = σ[j]? ∨ (j ∉ us ∧ False) := by
    intro s us h hl
    have hh : ∀ us' : List Nat, (backS σ us' s).length = σ.length := by
      intro us'
      induction us' with
      | nil => exact hl
      | cons u us' ih => unfold backS; rw [List.length_set]; exact ih
    refine ⟨hh us, fun j => .inl ?_⟩
    have key : ∀ us' : List Nat, (backS σ us' s)[j]? = if j ∈ us' then σ[j]? else s[j]? := by
      intro us'
      induction us' with
      | nil => simp [backS]
      | cons u us' ih =>
        unfold backS
        by_cases e : j = u
        · subst e
          by_cases hj : j < σ.length
          · rw [List.getElem?_set_self (by rw [hh]; exact hj)]
            simp [List.getElem?_eq_getElem hj]
          · rw [List.getElem?_eq_none (by simp [hh]; omega), List.getElem?_eq_none (by omega)]
            simp
        · rw [List.getElem?_set_ne (Ne.symm e), ih]
          simp [e]
    rw [key]
    by_cases hj : j ∈ us
    · rw [if_pos hj]
    · rw [if_neg hj, h j hj]
  obtain ⟨h1, h2⟩ := at_ (L2.wipe σ vs) vs (fun j hj => wipe_out hj) (wipe_length _ _)
  exact List.ext_getElem? fun j => (h2 j).elim id fun z => z.2.elim
theorem Rep.back (r1 : Rep K B M H ρ1 σ1) (x : Ext M H M' H') : ∀ (vs : List Nat) {ρ : Env} {σ : St}, Rep K B M' H' ρ σ → Rep K B M' H' (backE ρ1 vs ρ) (backS σ1 vs σ)
  | [], _, _, r => r
  | v :: vs, ρ, σ, r => by
    have ih := r1.back x vs r
    unfold backE backS
    cases e : ρ1[v]? with
    | none => exact ih.setNo v _
    | some s =>
      cases s with
      | v d =>
        obtain ⟨w, e1, q⟩ := r1.slot v _ e
        rw [e1]
        exact ih.setV v (Rp.ext x q)
      | _ => exact ih.setNo v _
/-- an owned object that no slot holds is written -/
theorem Rep.writeAnon (r : Rep K B M H ρ σ) {a : Addr} {o u : HO} (m : M a) (e : H a = some u) (an : Anon ρ σ a) (hb : B.H a = none) (np : ∀ p ∈ B.pr, p.1 ≠ a) (im : ¬ Imm u) : Rep K B M (upd H a o) ρ σ := by
  have hx : Ext M H M (upd H a o) := Ext.write m e im
  refine r.change (fun b ob h1 _ h3 => ?_) (fun b h => ?_) (fun _ h => h) (fun _ h => .inl h) (fun b h => ?_) rfl (fun p hp q => ?_) fun i s hi => ⟨(r.slot i s hi).ext hx fun b ho hv mb => ⟨mb, ?_⟩, s, hi, rfl⟩
  · rw [upd_ne fun z => by subst z; rw [hb] at h1; cases h1]; exact h3
  · by_cases z : b = a
    · rw [z, upd_same]; simp
    · rw [upd_ne z]; exact h
  · by_cases z : b = a
    · rw [z, upd_same]; simp
    · rw [upd_ne z]; exact r.trk b h
  · rw [upd_ne (np p hp)]; exact q
  · exact upd_ne fun z => by subst z; exact an i s hi ho (join_of hv)
/-- meanwhile a holds o -/
def Base.with (B : Base) (a : Addr) (o : HO) : Base := { B with pr := (a, o) :: B.pr }
theorem Rep.prot (r : Rep K B M H ρ σ) {a : Addr} {o : HO} (m : M a) (e : H a = some o) (an : Anon ρ σ a) : Rep K (B.with a o) M H ρ σ :=
  ⟨r.keep, r.old, r.sub, r.new, r.trk, r.len, r.slot, r.apart, fun p hp => by
    rcases List.mem_cons.mp hp with z | z
    · subst z; exact ⟨e, m, an⟩
    · exact r.pr p z⟩
theorem Rep.unprot {a : Addr} {o : HO} (r : Rep K (B.with a o) M H ρ σ) : Rep K B M H ρ σ ∧ M a ∧ H a = some o ∧ Anon ρ σ a :=
  ⟨⟨r.keep, r.old, r.sub, r.new, r.trk, r.len, r.slot, r.apart, fun p hp => r.pr p (List.mem_cons_of_mem _ hp)⟩, (r.pr _ List.mem_cons_self).2.1, (r.pr _ List.mem_cons_self).1, (r.pr _ List.mem_cons_self).2.2⟩
theorem Anon.wipe {a : Addr} (h : Anon ρ σ a) : ∀ vs : List Nat, Anon (wipeE ρ vs) (L2.wipe σ vs) a
  | [] => h
  | v :: vs => fun i s hi ho hv => by
    unfold wipeE at hi
    unfold L2.wipe at hv
    by_cases e : i = v
    · subst e
      by_cases hl : i < (wipeE ρ vs).length
      · rw [List.getElem?_set_self hl] at hi; cases hi; cases ho
      · rw [List.getElem?_eq_none (by simpa using hl)] at hi; cases hi
    · rw [List.getElem?_set_ne (Ne.symm e)] at hi hv
      exact h.wipe vs i s hi ho hv
end

/-! ### [e for x in xs if t] -/
def Res.noexc {α : Type} : Res α → Res α
  | .exc _ _ => .bad
  | r => r
def compL (g : D → Env → Option Env) (mt : TM) (me : EM) (vs : List Nat) : List D → List D → Env → Res (List D)
  | [], acc, ρ => .ok acc ρ
  | d :: ds, acc, ρ => match g d (wipeE ρ vs) with
    | none => .bad
    | some ρ2 => (mt ρ2).noexc.bind fun b ρ3 => if b then (me ρ3).noexc.bind fun z ρ4 => compL g mt me vs ds (acc ++ [z]) ρ4 else compL g mt me vs ds acc ρ3
def eComp (mi : Env → Res (List D)) (g : D → Env → Option Env) (mt : TM) (me : EM) (vs : List Nat) : EM := fun ρ => (mi ρ).bind fun ds ρ1 => (compL g mt me vs ds [] ρ1).bind fun acc ρe => .ok (.lst acc) (backE ρ1 vs (wipeE ρe vs))
section
variable {X : Cx} {W : WX}
theorem comp_sat {wi : TI} {mi : Env → Res (List D)} {g : D → Env → Option Env} {mt : TM} {me : EM} {vs : List Nat}
    (si : ∀ (B : Base) (M : Addr → Prop) (H : Hp) (ρ : Env) (σ : St) (Q : It → Hp → Prop), Rep X.K B M H ρ σ → Post X B W (fun M' H' _ ds J => ItOk X.K M' H' J ds ∧ ds.length ≤ sizeLine) M H σ (mi ρ) Q → wi σ H Q) :
    Sat X W (fun B σ => RelF X.K B σ) (tLc wi (tgCan X g vs) (ttCan X (fun _ _ _ _ => False) mt) (tCan X (fun _ _ _ _ => False) me) vs) (eComp mi g mt me vs) := by
  intro B M H ρ σ Q rp k
  refine si B M H ρ σ _ rp (Post.seq k fun ds ρ1 M1 H1 J x1 r1 q1 k1 => ?_)
  intro Da hD
  have hbD := r1.base_new (X := X) hD
  have npD := r1.pr_new (X := X) hD
  obtain ⟨T, hT⟩ : ∃ T, T = compL g mt me vs ds [] ρ1 := ⟨_, rfl⟩
  refine ⟨fun i n H' => n = ds.length - i ∧ i ≤ ds.length ∧ ∃ M' ρ' acc accV, Ext M1 H1 M' H' ∧ M' Da ∧ H' Da = some (.lst accV) ∧ RpL X.K M' H' acc accV ∧ acc.length ≤ i ∧ Rep X.K B M' H' (wipeE ρ' vs) (L2.wipe σ vs) ∧
    Anon (wipeE ρ' vs) (L2.wipe σ vs) Da ∧ Post X B W (fun _ _ _ _ (_ : Unit) => True) M' H' σ (compL g mt me vs (ds.drop i) acc ρ') (fun _ _ => True) ∧
    (∀ acc' ρe, compL g mt me vs (ds.drop i) acc ρ' = .ok acc' ρe → T = .ok acc' ρe), ⟨_, rfl, Nat.zero_le _, fun b => M1 b ∨ b = Da, ρ1, [], [], Ext.newO hD, .inr rfl, upd_same, .nil, Nat.le_refl _, (r1.allocO hD).wipe vs, (r1.anon_new (X := X) hD).wipe vs, ?_, fun _ _ e => hT.trans e⟩, ?_⟩
  · have e0 : ds.drop 0 = ds := rfl
    rw [e0]
    cases e : compL g mt me vs ds [] ρ1 with
    | ok a ρe => exact fun _ _ _ _ _ _ => trivial
    | exc x ρe =>
      have noexc : ∀ (ds acc : List D) (ρ : Env) x ρe, compL g mt me vs ds acc ρ ≠ .exc x ρe := by
        intro ds
        induction ds with
        | nil => intro acc ρ x ρe z; cases z
        | cons d ds ih =>
          intro acc ρ x ρe z
          unfold compL at z
          cases eg : g d (wipeE ρ vs) with
          | none => simp only [eg] at z; cases z
          | some ρ2 =>
            simp only [eg] at z
            cases et : mt ρ2 with
            | bad => simp only [et, Res.noexc, Res.bind] at z; cases z
            | exc _ _ => simp only [et, Res.noexc, Res.bind] at z; cases z
            | ok b ρ3 =>
              simp only [et, Res.noexc, Res.bind] at z
              cases b with
              | false => simp only [Bool.false_eq_true, if_false] at z; exact ih _ _ _ _ z
              | true =>
                simp only [if_true] at z
                cases em : me ρ3 with
                | bad => simp only [em] at z; cases z
                | exc _ _ => simp only [em] at z; cases z
                | ok y ρ4 => simp only [em] at z; exact ih _ _ _ _ z
      exact absurd e (noexc ds [] ρ1 x ρe)
    | bad => rw [e] at k1; exact k1.elim
  · rintro i n H2 ⟨rfl, hi, M2, ρ2, acc, accV, x2, mD, hDa, racc, hacc, r2, an2, pk, back⟩
    obtain ⟨stop, go⟩ := q1.1 M2 H2 x2
    cases hd : ds[i]? with
    | none =>
      have hl : ds.length ≤ i := List.getElem?_eq_none_iff.mp hd
      rw [List.drop_eq_nil_of_le hl] at back
      refine .inl ⟨stop i hl, ?_⟩
      have e := back acc ρ2 rfl
      rw [← hT, e] at k1
      have rb := r1.back x2 vs r2
      rw [back_wipe] at rb
      refine k1 M2 H2 (.ref Da) x2 rb ⟨Da, rfl, ⟨mD, Nat.le_trans hacc (Nat.le_trans hi q1.2), accV, hDa, racc⟩, hbD, ?_, npD⟩
      intro j s hj ho hv
      obtain ⟨a, d, e1, w, _⟩ := (rb.slot j s hj).own ho
      rw [of_join hv] at e1
      cases e1
      -- the slots of the block are values; the others are as they were
      have key : ∀ us : List Nat, ∀ j s, (backE ρ1 us (wipeE ρ2 vs))[j]? = some s → isOwn s = true → (wipeE ρ2 vs)[j]? = some s ∧ j ∉ us := by
        intro us
        induction us with
        | nil => exact fun j s h _ => ⟨h, by simp⟩
        | cons u us ih =>
          intro j s h ho
          unfold backE at h
          by_cases e : j = u
          · subst e
            by_cases hl : j < (backE ρ1 us (wipeE ρ2 vs)).length
            · rw [List.getElem?_set_self hl] at h
              cases h
              cases q : (ρ1[j]?.getD .no) <;> rw [q] at ho <;> cases ho
            · rw [List.getElem?_eq_none (by simpa using hl)] at h; cases h
          · rw [List.getElem?_set_ne (Ne.symm e)] at h
            obtain ⟨a1, a2⟩ := ih j s h ho
            exact ⟨a1, by simp [e, a2]⟩
      obtain ⟨h1, h2⟩ := key vs j s hj ho
      refine an2 j s h1 ho ?_
      rw [wipe_out h2]
      exact hv
    | some d =>
      obtain ⟨hl, e⟩ := List.getElem?_eq_some_iff.mp hd
      rw [List.drop_eq_getElem_cons hl, e] at pk back
      obtain ⟨g1, yl⟩ := go i d hd
      refine .inr ⟨g1, fun H' => i + 1 ≤ ds.length ∧ ∃ M' ρ' acc accV, Ext M1 H1 M' H' ∧ M' Da ∧ H' Da = some (.lst accV) ∧ RpL X.K M' H' acc accV ∧ acc.length ≤ i + 1 ∧ Rep X.K B M' H' (wipeE ρ' vs) (L2.wipe σ vs) ∧
        Anon (wipeE ρ' vs) (L2.wipe σ vs) Da ∧ Post X B W (fun _ _ _ _ (_ : Unit) => True) M' H' σ (compL g mt me vs (ds.drop (i + 1)) acc ρ') (fun _ _ => True) ∧
        (∀ acc' ρe, compL g mt me vs (ds.drop (i + 1)) acc ρ' = .ok acc' ρe → T = .ok acc' ρe), fun H' z => ⟨ds.length - (i + 1), by omega, rfl, z⟩, fun x H3 hy => ?_⟩
      obtain ⟨keep, rx⟩ := yl x H3 hy
      have xk : Ext M2 H2 M2 H3 := fun b o eb _ => ⟨keep b o eb, fun n => n⟩
      have r3 : Rep X.K (B.with Da (.lst accV)) M2 H3 (wipeE ρ2 vs) (L2.wipe σ vs) := (r2.prot mD hDa an2).grow xk keep (fun _ z => z) (fun _ z => .inl z) fun b z => by
        cases q : H2 b with
        | none => exact absurd q (r2.trk b z)
        | some o => rw [keep b o q]; simp
      unfold compL at pk back
      cases eg : g d (wipeE ρ2 vs) with
      | none => simp only [eg] at pk; exact pk.elim
      | some ρ3 =>
        simp only [eg] at pk back
        refine ⟨_, M2, _, ρ3, d, r3, rx, eg, fun σ3 r4 on => ⟨wipe_ext on, _, M2, ρ3, r4, ?_⟩⟩
        cases et : mt ρ3 with
        | bad => simp only [et, Res.noexc, Res.bind] at pk; exact pk.elim
        | exc _ _ => simp only [et, Res.noexc, Res.bind] at pk; exact pk.elim
        | ok b ρ4 =>
          simp only [et, Res.noexc, Res.bind] at pk back
          intro M4 H4 b' x4 r5 eb
          cases eb
          have fin : ∀ (ρ5 : Env) (M5 : Addr → Prop) (H5 : Hp) (acc5 : List D) (accV5 : List V), Ext M2 H2 M5 H5 → M5 Da → H5 Da = some (.lst accV5) → RpL X.K M5 H5 acc5 accV5 → acc5.length ≤ i + 1 → Rep X.K B M5 H5 ρ5 σ3 → Anon ρ5 σ3 Da →
              Post X B W (fun _ _ _ _ (_ : Unit) => True) M2 H2 σ (compL g mt me vs (ds.drop (i + 1)) acc5 ρ5) (fun _ _ => True) → (∀ acc' ρe, compL g mt me vs (ds.drop (i + 1)) acc5 ρ5 = .ok acc' ρe → T = .ok acc' ρe) →
              i + 1 ≤ ds.length ∧ ∃ M' ρ' acc accV, Ext M1 H1 M' H5 ∧ M' Da ∧ H5 Da = some (.lst accV) ∧ RpL X.K M' H5 acc accV ∧ acc.length ≤ i + 1 ∧ Rep X.K B M' H5 (wipeE ρ' vs) (L2.wipe σ vs) ∧
                Anon (wipeE ρ' vs) (L2.wipe σ vs) Da ∧ Post X B W (fun _ _ _ _ (_ : Unit) => True) M' H5 σ (compL g mt me vs (ds.drop (i + 1)) acc ρ') (fun _ _ => True) ∧
                (∀ acc' ρe, compL g mt me vs (ds.drop (i + 1)) acc ρ' = .ok acc' ρe → T = .ok acc' ρe) := by
            intro ρ5 M5 H5 acc5 accV5 x5 m5 h5 ra5 l5 r6 an6 pk5 back5
            have rw5 := r6.wipe vs
            have aw5 := an6.wipe vs
            rw [wipe_ext on] at rw5 aw5
            exact ⟨hl, M5, ρ5, acc5, accV5, x2.trans x5, m5, h5, ra5, l5, rw5, aw5, Post.shift x5 pk5, back5⟩
          cases b with
          | false =>
            simp only [Bool.false_eq_true, if_false] at pk back
            obtain ⟨u1, u2, u3, u4⟩ := r5.unprot
            exact iteF (fin ρ4 M4 H4 acc accV (xk.trans x4) u2 u3 (RpL.ext (xk.trans x4) racc) (Nat.le_succ_of_le hacc) u1 u4 pk back)
          | true =>
            simp only [if_true] at pk back
            refine iteT ⟨_, M4, ρ4, r5, ?_⟩
            cases em : me ρ4 with
            | bad => simp only [em] at pk; exact pk.elim
            | exc _ _ => simp only [em] at pk; exact pk.elim
            | ok z ρ5 =>
              simp only [em] at pk back
              intro M5 H5 zv x5 r6 rz
              obtain ⟨u1, u2, u3, u4⟩ := r6.unprot
              have x25 := (xk.trans x4).trans x5
              have lacc := (RpL.length racc)
              refine ⟨accV, u3, by rw [← lacc]; have := q1.2; omega, ?_⟩
              have xw : Ext M5 H5 M5 (upd H5 Da (.lst (accV ++ [zv]))) := Ext.write u2 u3 fun z => z
              exact fin ρ5 M5 _ (acc ++ [z]) (accV ++ [zv]) (x25.trans xw) u2 upd_same (RpL.append (RpL.ext (x25.trans xw) racc) (.cons (Rp.ext xw rz) .nil)) (by rw [List.length_append]; exact Nat.succ_le_succ hacc)
                (u1.writeAnon u2 u3 u4 hbD npD fun z => z) u4 pk back
theorem df_comp {elt tg iter : Expr} {ifs : List Expr} {scope : Scope} {own : List (Str × Nat)} {pos : Pos} {mi : Env → Res (List D)} {g : D → Env → Option Env} {mt : TM} {me : EM} {vs : List Nat} (c : Cd X) (hN : X.N.Nodup) (hi : DI X W tg iter mi) (ok : BlkOk X.N X.env.scope scope own)
    (hg : ∀ (s : Shared) (H : Hp) (C : Addr) (cl : List (Str × Addr)) (fp : List Addr), DG (X.blk s H scope (compEnvC scope cl C X.env) fp) tg g vs)
    (ht : ∀ (s : Shared) (H : Hp) (C : Addr) (cl : List (Str × Addr)) (fp : List Addr), DTs (X.blk s H scope (compEnvC scope cl C X.env) fp) (fun _ _ _ _ => False) ifs mt)
    (he : ∀ (s : Shared) (H : Hp) (C : Addr) (cl : List (Str × Addr)) (fp : List Addr), DE (X.blk s H scope (compEnvC scope cl C X.env) fp) (fun _ _ _ _ => False) elt me) (ev : own.map (·.2) = vs := by rfl) (hs : ∀ x, foldedSetIterable iter X.env x = pure x := by intro _; rfl) :
    DF X W (.ListComp elt [⟨tg, iter, ifs, 0⟩] scope pos) (eComp mi g mt me vs) := by
  obtain ⟨wi, pi, si⟩ := hi
  subst ev
  exact ⟨_, pe_lc (tt := ttCan X (fun _ _ _ _ => False) mt) c.calm hN pi ok (fun s H C cl fp => can_g (hg s H C cl fp)) (fun s H C cl fp => ht s H C cl fp) (fun s H C cl fp => can_e (he s H C cl fp)) hs, comp_sat si⟩
end
end NV

set_option Elab.async false
set_option linter.all false
set_option maxRecDepth 100000
set_option maxHeartbeats 4000000
/-! Core7: defs and their calls. -/
namespace NV
open PySem PySem.Spec PyProof.Rows L2

/-- what a def does: its answer, what its owned parameters hold then -/
inductive FRes where
  | ok (r : D) (os : List D)
  | okF (r : D) (os : List D)
  | exc (x : Exn) (os : List D)
  | bad

def ArgR (K : PySem.W.Frag) (M : Addr → Prop) (H : Hp) : List Bool → List D → List V → List Addr → Prop
  | [], [], [], [] => True
  | false :: fs, d :: ds, v :: vs, as => Rp K M H d v ∧ ArgR K M H fs ds vs as
  | true :: fs, d :: ds, v :: vs, a :: as => v = .ref a ∧ Ow K M H d a ∧ ArgR K M H fs ds vs as
  | _, _, _, _ => False
def Kept (as : List Addr) (H H' : Hp) : Prop := ∀ b o, H b = some o → b ∉ as → H' b = some o
/-- the promise of a def that does F; fl: which parameters are owned -/
def spF (K : PySem.W.Frag) (mg : Str → Option Value) (fl : List Bool) (F : List D → FRes) : Sp := fun vs H Q E => ∃ (M : Addr → Prop) (ds : List D) (as : List Addr), (∀ b, M b → H b ≠ none) ∧ as.Nodup ∧ ArgR K M H fl ds vs as ∧ match F ds with
  | .ok r os => ∀ H' v, Kept as H H' → Paired (Ow K M H') os as → Rp K M H' r v → Q v H'
  | .okF r os => ∀ H' a, Kept as H H' → H a = none → Paired (Ow K (fun b => M b ∨ b = a) H') os as → Ow K (fun b => M b ∨ b = a) H' r a → Q (.ref a) H'
  | .exc x os => ∀ H' c dx, Kept as H H' → Paired (Ow K M H') os as → ExR K mg M H' x c dx → E c dx H'
  | .bad => False

/-! ### a body -/
def slotsOf : List Bool → List D → Env
  | false :: fs, d :: ds => .v d :: slotsOf fs ds
  | true :: fs, d :: ds => .p d :: slotsOf fs ds
  | _, _ => []
def owns : List Bool → Env → Option (List D)
  | [], _ => some []
  | false :: fs, _ :: ρ => owns fs ρ
  | true :: fs, .p d :: ρ => (owns fs ρ).map fun ds => d :: ds
  | _, _ => none
def fin (fl : List Bool) (f : List D → FRes) (ρ : Env) : FRes := match owns fl ρ with
  | some os => f os
  | none => .bad
def runF (fl : List Bool) (n : Nat) (m : SM) (ds : List D) : FRes := if ds.length = fl.length then match m (slotsOf fl ds ++ List.replicate (n - ds.length) .no) with
  | .nx ρ => fin fl (.ok .non) ρ
  | .rt d ρ => fin fl (.ok d) ρ
  | .rtF d ρ => fin fl (.okF d) ρ
  | .exc x ρ => fin fl (.exc x) ρ
  | _ => .bad else .bad

section
variable {K : PySem.W.Frag} {M M' : Addr → Prop} {H H' : Hp}
theorem ArgR.len : ∀ {fl : List Bool} {ds : List D} {vs : List V} {as : List Addr}, ArgR K M H fl ds vs as → vs.length = fl.length ∧ ds.length = fl.length
  | [], [], [], [], _ => ⟨rfl, rfl⟩
  | false :: fs, d :: ds, v :: vs, as, h => by
    obtain ⟨_, h⟩ := h
    obtain ⟨a, b⟩ := ArgR.len h
    exact ⟨by simp [a], by simp [b]⟩
  | true :: fs, d :: ds, v :: vs, a :: as, h => by
    obtain ⟨_, _, h⟩ := h
    obtain ⟨a, b⟩ := ArgR.len h
    exact ⟨by simp [a], by simp [b]⟩
/-- where the owned parameters stand -/
def paOf : List Bool → List Addr → Nat → Option Addr
  | [], _, _ => none
  | false :: fs, as, 0 => none
  | false :: fs, as, i + 1 => paOf fs as i
  | true :: fs, [], _ => none
  | true :: fs, a :: as, 0 => some a
  | true :: fs, a :: as, i + 1 => paOf fs as i
theorem paOf_mem : ∀ {fl : List Bool} {as : List Addr} {i : Nat} {a : Addr}, paOf fl as i = some a → a ∈ as
  | [], _, _, _, h => by cases h
  | false :: fs, as, 0, _, h => by cases h
  | false :: fs, as, i + 1, _, h => paOf_mem (fl := fs) h
  | true :: fs, [], _, _, h => by cases h
  | true :: fs, b :: as, 0, _, h => by cases h; exact List.mem_cons_self
  | true :: fs, b :: as, i + 1, _, h => List.mem_cons_of_mem _ (paOf_mem (fl := fs) h)
theorem paOf_inj : ∀ {fl : List Bool} {as : List Addr} {i j : Nat} {a : Addr}, as.Nodup → paOf fl as i = some a → paOf fl as j = some a → i = j
  | [], _, _, _, _, _, h, _ => by cases h
  | false :: fs, as, 0, _, _, _, h, _ => by cases h
  | false :: fs, as, i + 1, 0, _, _, _, h => by cases h
  | false :: fs, as, i + 1, j + 1, _, n, h1, h2 => congrArg _ (paOf_inj (fl := fs) n h1 h2)
  | true :: fs, [], _, _, _, _, h, _ => by cases h
  | true :: fs, b :: as, 0, 0, _, _, _, _ => rfl
  | true :: fs, b :: as, 0, j + 1, _, n, h1, h2 => by
    cases h1
    exact absurd (paOf_mem (fl := fs) h2) (List.nodup_cons.mp n).1
  | true :: fs, b :: as, i + 1, 0, _, n, h1, h2 => by
    cases h2
    exact absurd (paOf_mem (fl := fs) h1) (List.nodup_cons.mp n).1
  | true :: fs, b :: as, i + 1, j + 1, _, n, h1, h2 => congrArg _ (paOf_inj (fl := fs) (List.nodup_cons.mp n).2 h1 h2)
theorem ArgR.slot {n : Nat} : ∀ {fl : List Bool} {ds : List D} {vs : List V} {as : List Addr}, ArgR K M H fl ds vs as → ∀ (i : Nat) (s : Slot), (slotsOf fl ds ++ List.replicate n .no)[i]? = some s →
    match s with
    | .no => True
    | .v d => ∃ v, vs[i]? = some v ∧ Rp K M H d v
    | .p d => ∃ a, vs[i]? = some (.ref a) ∧ Ow K M H d a ∧ paOf fl as i = some a
    | .o _ => False
  | [], [], [], [], _, i, s, h => by
    have h : (List.replicate n Slot.no)[i]? = some s := h
    rw [List.getElem?_replicate] at h
    split at h <;> cases h
    trivial
  | false :: fs, d :: ds, v :: vs, as, hh, 0, s, h => by
    cases h
    exact ⟨v, rfl, hh.1⟩
  | false :: fs, d :: ds, v :: vs, as, hh, i + 1, s, h => by
    have q := ArgR.slot (n := n) hh.2 i s (by simpa [slotsOf] using h)
    cases s <;> exact q
  | true :: fs, d :: ds, v :: vs, a :: as, hh, 0, s, h => by
    cases h
    obtain ⟨e, w, _⟩ := hh
    subst e
    exact ⟨a, rfl, w, rfl⟩
  | true :: fs, d :: ds, v :: vs, a :: as, hh, i + 1, s, h => by
    have q := ArgR.slot (n := n) hh.2.2 i s (by simpa [slotsOf] using h)
    cases s <;> exact q
theorem slotsOf_length : ∀ {fl : List Bool} {ds : List D}, ds.length = fl.length → (slotsOf fl ds).length = fl.length
  | [], [], _ => rfl
  | false :: fs, d :: ds, h => by simp [slotsOf, slotsOf_length (fl := fs) (ds := ds) (by simpa using h)]
  | true :: fs, d :: ds, h => by simp [slotsOf, slotsOf_length (fl := fs) (ds := ds) (by simpa using h)]
theorem as_len : ∀ {fl : List Bool} {ds : List D} {vs : List V} {as : List Addr}, ArgR K M H fl ds vs as → ∀ a ∈ as, ∃ i, paOf fl as i = some a
  | [], [], [], [], _, a, h => by cases h
  | false :: fs, d :: ds, v :: vs, as, hh, a, h => by
    obtain ⟨i, e⟩ := as_len hh.2 a h
    exact ⟨i + 1, e⟩
  | true :: fs, d :: ds, v :: vs, b :: as, hh, a, h => by
    rcases List.mem_cons.mp h with e | h
    · subst e; exact ⟨0, rfl⟩
    · obtain ⟨i, e⟩ := as_len hh.2.2 a h
      exact ⟨i + 1, e⟩
/-- the owned parameters' contents at the end -/
theorem owns_rep {fl0 : List Bool} {as0 : List Addr} : ∀ {fl : List Bool} {as : List Addr} {ds : List D} {vs : List V} {ρ : Env} {os : List D} (k : Nat), ArgR K M H fl ds vs as → (∀ i, paOf fl as i = paOf fl0 as0 (i + k)) → owns fl ρ = some os →
    (∀ i s, ρ[i]? = some s → ∀ d, s = .p d → ∃ a, Ow K M' H' d a ∧ paOf fl0 as0 (i + k) = some a) → Paired (Ow K M' H') os as
  | [], as, ds, vs, ρ, os, k, hh, _, h, _ => by
    cases ds <;> cases vs <;> cases as <;> first | exact hh.elim | (cases h; exact .nil)
  | false :: fs, as, [], vs, ρ, os, k, hh, hp, h, hs => hh.elim
  | false :: fs, as, d :: ds, [], ρ, os, k, hh, hp, h, hs => hh.elim
  | true :: fs, as, [], vs, ρ, os, k, hh, hp, h, hs => hh.elim
  | true :: fs, as, d :: ds, [], ρ, os, k, hh, hp, h, hs => hh.elim
  | true :: fs, [], d :: ds, v :: vs, ρ, os, k, hh, hp, h, hs => hh.elim
  | false :: fs, as, d :: ds, v :: vs, ρ, os, k, hh, hp, h, hs => by
    cases ρ with
    | nil => cases h
    | cons s ρ =>
      have hs' : ∀ i s, ρ[i]? = some s → ∀ d, s = .p d → ∃ a, Ow K M' H' d a ∧ paOf fl0 as0 (i + (k + 1)) = some a := by
        intro i s hi d e
        have q := hs (i + 1) s (by simpa using hi) d e
        rw [show i + (k + 1) = (i + 1) + k by omega]
        exact q
      have hp' : ∀ i, paOf fs as i = paOf fl0 as0 (i + (k + 1)) := by
        intro i
        rw [show i + (k + 1) = (i + 1) + k by omega, ← hp (i + 1)]
        rfl
      exact owns_rep (k + 1) hh.2 hp' h hs'
  | true :: fs, a :: as, d :: ds, v :: vs, ρ, os, k, hh, hp, h, hs => by
    cases ρ with
    | nil => cases h
    | cons s ρ =>
      cases s with
      | p x =>
        unfold owns at h
        cases e : owns fs ρ with
        | none => rw [e] at h; cases h
        | some os' =>
          rw [e] at h
          cases h
          have hs' : ∀ i s, ρ[i]? = some s → ∀ d, s = .p d → ∃ a, Ow K M' H' d a ∧ paOf fl0 as0 (i + (k + 1)) = some a := by
            intro i s hi d e
            have q := hs (i + 1) s (by simpa using hi) d e
            rw [show i + (k + 1) = (i + 1) + k by omega]
            exact q
          have hp' : ∀ i, paOf fs as i = paOf fl0 as0 (i + (k + 1)) := by
            intro i
            rw [show i + (k + 1) = (i + 1) + k by omega, ← hp (i + 1)]
            rfl
          refine .cons ?_ (owns_rep (k + 1) hh.2.2 hp' e hs')
          obtain ⟨a', w, e'⟩ := hs 0 _ rfl x rfl
          have e2 := hp 0
          rw [e'] at e2
          have e2 : some a = some a' := e2
          cases e2
          exact w
      | _ => cases h
end
theorem start_get {N : List Str} {vs : List V} {i : Nat} : (L2.start N vs)[i]?.join = vs[i]? := by
  unfold L2.start
  by_cases h : i < vs.length
  · rw [List.getElem?_append_left (by simpa using h), List.getElem?_map, List.getElem?_eq_getElem h]
    rfl
  · rw [List.getElem?_append_right (by simpa using h), List.getElem?_replicate, List.getElem?_eq_none (by omega)]
    split <;> rfl
/-- THE RULE for a def -/
theorem fn_def {P : Program} {w : World} {K : PySem.W.Frag} {mg : Str → Option Value} {base : Heap} {x qual : Str} {st : Stmt} {f : Addr} {fd : FuncData} {N ps : List Str} {k : Nat} {fl : List Bool} {m : SM} (F : L2.Fun K x qual st f fd) (S : FnScope N ps (defScope st)) (hf : fl.length = ps.length)
    (der : ∀ (cdv : Value) (A : Around) (outer : List PySem.Env) (s : Shared) (H : Hp) (E : XK), Room k (A.deeper (envOfC qual (defScope st) s.heap.objs.size f cdv)) →
      DSs (cxOf (L2.CX P w) P w K mg base N qual (defScope st) f cdv A outer s H E) (fun c dx _ H' => E c dx H') (defBody st) m) : FnOk P w K mg base (L2.CX P w) (k + 1) f fd ps (spF K mg fl (runF fl N.length m)) := by
  refine Fun.okX F S (fun vs H Q E ⟨M, ds, as, _, _, h, _⟩ => by rw [h.len.1, hf]) fun cdv A outer s H vs Q E hr ⟨M, ds, as, mt, nd, ha, hsp⟩ => ?_
  obtain ⟨t, pt, sat⟩ := der cdv A outer s H E hr
  refine ⟨t, pt, ?_⟩
  obtain ⟨lv, ld⟩ := ha.len
  have hN : ps.length ≤ N.length := by have := congrArg List.length S.pre; rw [List.length_take] at this; omega
  have X0 : (cxOf (L2.CX P w) P w K mg base N qual (defScope st) f cdv A outer s H E).K = K := rfl
  have X1 : (cxOf (L2.CX P w) P w K mg base N qual (defScope st) f cdv A outer s H E).mg = mg := rfl
  have rep : Rep K ⟨M, H, paOf fl as, [], mt⟩ M H (slotsOf fl ds ++ List.replicate (N.length - ds.length) .no) (L2.start N vs) := by
    refine ⟨fun b o e _ => e, fun b h => h, fun b h => h, fun b h => .inl h, mt, ?_, fun i s hi => ?_, fun i j s t a ne hi hj hs ht vi vj => ?_, fun p hp => by cases hp⟩
    · unfold L2.start
      rw [List.length_append, List.length_append, slotsOf_length ld, List.length_map, List.length_replicate, List.length_replicate, lv, ld]
    · rw [start_get]
      have q := ha.slot (n := N.length - ds.length) i s hi
      cases s with
      | no => trivial
      | v d => exact q
      | o d => exact q.elim
      | p d => exact q
    · have q1 := ha.slot (n := N.length - ds.length) i s hi
      have q2 := ha.slot (n := N.length - ds.length) j t hj
      cases s with
      | p d =>
        cases t with
        | p e =>
          obtain ⟨a1, e1, _, p1⟩ := q1
          obtain ⟨a2, e2, _, p2⟩ := q2
          rw [← start_get (N := N), of_join vi] at e1
          rw [← start_get (N := N), of_join vj] at e2
          cases e1
          cases e2
          exact ne (paOf_inj nd p1 p2)
        | no => cases ht
        | v _ => cases ht
        | o _ => exact q2.elim
      | no => cases hs
      | v _ => cases hs
      | o _ => exact q1.elim
  refine sat _ M H _ (L2.start N vs) _ rep ?_
  unfold runF at hsp
  rw [if_pos ld] at hsp
  have keep : ∀ {M' : Addr → Prop} {H' : Hp} {ρ : Env} {σ' : St}, Rep K ⟨M, H, paOf fl as, [], mt⟩ M' H' ρ σ' → Kept as H H' := fun r b o e hb => r.keep b o e fun i hi => hb (paOf_mem hi)
  have own : ∀ {M' : Addr → Prop} {H' : Hp} {ρ : Env} {σ' : St} {os : List D}, Rep K ⟨M, H, paOf fl as, [], mt⟩ M' H' ρ σ' → owns fl ρ = some os → Paired (Ow K M' H') os as := fun {M' H' ρ σ' os} r ho =>
    owns_rep (fl0 := fl) (as0 := as) 0 ha (fun i => rfl) ho fun i s hi d e => by
      subst e
      obtain ⟨a, _, w, pa⟩ := r.slot i _ hi
      exact ⟨a, w, pa⟩
  have down : ∀ {M' M2 : Addr → Prop} {H' : Hp} {os : List D}, (∀ b, M2 b → M' b) → (∀ a ∈ as, M2 a) → Paired (Ow K M' H') os as → Paired (Ow K M2 H') os as := by
    intro M' M2 H' os hsub hm h
    have x : Ext M' H' M2 H' := Ext.sub hsub
    have go : ∀ (os : List D) (as : List Addr), (∀ a ∈ as, M2 a) → Paired (Ow K M' H') os as → Paired (Ow K M2 H') os as := by
      intro os as hm h
      induction h with
      | nil => exact .nil
      | cons a b ih => exact .cons (a.ext x (hm _ List.mem_cons_self) rfl) (ih fun c hc => hm c (List.mem_cons_of_mem _ hc))
    exact go os as hm h
  have asM : ∀ a ∈ as, M a := fun a h => by
    obtain ⟨i, e⟩ := as_len ha a h
    -- the parameter's own slot
    have go : ∀ {fl : List Bool} {ds : List D} {vs : List V} {as : List Addr}, ArgR K M H fl ds vs as → ∀ a ∈ as, M a := by
      intro fl
      induction fl with
      | nil => intro ds vs as h a hm; cases ds <;> cases vs <;> cases as <;> first | exact h.elim | (cases hm; done)
      | cons b fl ih =>
        intro ds vs as h a hm
        cases b with
        | false => cases ds <;> cases vs <;> first | exact h.elim | exact ih h.2 a hm
        | true =>
          cases ds <;> cases vs <;> cases as <;> first | exact h.elim | skip
          rcases List.mem_cons.mp hm with e | hm
          · subst e; exact h.2.1.mem
          · exact ih h.2.2 a hm
    exact go ha a h
  cases em : m (slotsOf fl ds ++ List.replicate (N.length - ds.length) .no) with
  | nx ρ =>
    rw [em] at hsp
    unfold fin at hsp
    cases eo : owns fl ρ with
    | none => simp only [eo] at hsp
    | some os =>
      simp only [eo] at hsp
      exact fun M' H' σ' x r => hsp H' .non (keep r) (down (fun b h => r.sub b h) asM (own r eo)) .non
  | rt d ρ =>
    rw [em] at hsp
    unfold fin at hsp
    cases eo : owns fl ρ with
    | none => simp only [eo] at hsp
    | some os =>
      simp only [eo] at hsp
      exact fun M' H' σ' v x r q => hsp H' v (keep r) (down (fun b h => r.sub b h) asM (own r eo)) (Rp.ext (Ext.sub fun b h => r.sub b h) q)
  | rtF d ρ =>
    rw [em] at hsp
    unfold fin at hsp
    cases eo : owns fl ρ with
    | none => simp only [eo] at hsp
    | some os =>
      simp only [eo] at hsp
      intro M' H' σ' v x r ⟨a, ev, w, hb, an, _⟩
      subst ev
      have hsub : ∀ b, M b ∨ b = a → M' b := fun b h => h.elim (r.sub b) fun e => e ▸ w.mem
      exact hsp H' a (keep r) hb (down hsub (fun b h => .inl (asM b h)) (own r eo)) (w.ext (Ext.sub hsub) (.inr rfl) rfl)
  | exc xx ρ =>
    rw [em] at hsp
    unfold fin at hsp
    cases eo : owns fl ρ with
    | none => simp only [eo] at hsp
    | some os =>
      simp only [eo] at hsp
      refine fun M' H' σ' c dx x r q => hsp H' c dx (keep r) (down (fun b h => r.sub b h) asM (own r eo)) ?_
      obtain ⟨C, h1, h2, h3⟩ := q
      refine ⟨C, h1, h2, ?_⟩
      split at h3
      · exact h3
      · obtain ⟨a, v, e1, e2, e3⟩ := h3
        exact ⟨a, v, e1, e2, Rp.ext (Ext.sub fun b h => r.sub b h) e3⟩
      · exact h3
  | bk ρ => rw [em] at hsp; exact hsp.elim
  | ct ρ => rw [em] at hsp; exact hsp.elim
  | bad => rw [em] at hsp; exact hsp.elim
theorem fn_bad {P : Program} {w : World} {K : PySem.W.Frag} {mg : Str → Option Value} {base : Heap} {f : Addr} {fd : FuncData} {ps : List Str} {k : Nat} {fl : List Bool} : FnOk P w K mg base (L2.CX P w) k f fd ps (spF K mg fl fun _ => .bad) :=
  ⟨fun _ _ _ _ ⟨_, _, _, _, _, _, h⟩ => h.elim, fun _ _ _ _ _ _ _ _ _ _ _ _ _ ⟨_, _, _, _, _, _, h⟩ => h.elim⟩
end NV

set_option Elab.async false
set_option linter.all false
set_option maxRecDepth 100000
set_option maxHeartbeats 4000000
/-! Core8: calls of defs. -/
namespace NV
open PySem PySem.Spec PyProof.Rows L2

/-! ### data without lists inside -/
mutual
def D.flat : D → Bool
  | .tup xs => flatL xs
  | .lst _ => false
  | .dct _ => false
  | _ => true
def flatL : List D → Bool
  | [] => true
  | d :: ds => d.flat && flatL ds
end
/-- an owned object with flat contents -/
def D.flatO : D → Bool
  | .lst xs => flatL xs
  | _ => false
section
variable {K : PySem.W.Frag} {M M' : Addr → Prop} {H : Hp}
mutual
theorem Rp.flat : ∀ {d : D} {v : V}, Rp K M H d v → d.flat = true → Rp K M' H d v
  | .non, _, h, _ => by cases h; exact .non
  | .bl b, _, h, _ => by cases h; exact .bl b
  | .int i, _, h, _ => by cases h; exact .int i
  | .str z, _, h, _ => by
    cases h with
    | str g => exact .str g
  | .tup ds, _, h, f => by
    cases h with
    | tup l s q => exact .tup l s (RpL.flat q f)
  | .lst ds, _, h, f => by cases f
  | .dct kvs, _, h, f => by cases f
  | .exn _ _, _, h, _ => by cases h
  | .scr xs, _, h, _ => by
    cases h with
    | scr l s => exact .scr l s
theorem RpL.flat : ∀ {ds : List D} {vs : List V}, RpL K M H ds vs → flatL ds = true → RpL K M' H ds vs
  | [], _, h, _ => by cases h; exact .nil
  | d :: ds, _, h, f => by
    cases h with
    | cons a b =>
      unfold flatL at f
      rw [Bool.and_eq_true] at f
      exact .cons (Rp.flat a f.1) (RpL.flat b f.2)
end
theorem Ow.flat {d : D} {a : Addr} (w : Ow K M H d a) (f : d.flatO = true) (hm : M' a) : Ow K M' H d a := by
  cases d with
  | lst ds => obtain ⟨_, l, vs, e, q⟩ := w; exact ⟨hm, l, vs, e, q.flat f⟩
  | _ => cases f
end

/-! ### the arguments -/
def ownIdx : List Bool → List RV → Option (List Nat)
  | [], [] => some []
  | false :: fs, _ :: rs => ownIdx fs rs
  | true :: fs, .own i :: rs => (ownIdx fs rs).map fun is => i :: is
  | _, _ => none
/-- owned objects that are only lent -/
def lent : List Bool → List RV → List Nat
  | false :: fs, .own i :: rs => i :: lent fs rs
  | false :: fs, _ :: rs => lent fs rs
  | true :: fs, _ :: rs => lent fs rs
  | _, _ => []
def upO (ρ : Env) : List Nat → List D → Option Env
  | [], [] => some ρ
  | [i], [d] => some (ownSet ρ i d)
  | _, _ => none
def lentOk (l : List Nat) (r : D) (os : List D) : Bool := l.isEmpty || (r.flat && os.all D.flatO)
def lentOkF (l : List Nat) (r : D) (os : List D) : Bool := l.isEmpty || (r.flatO && os.all D.flatO)
/-- behind the arguments of a call of F -/
def callG (fl : List Bool) (fr : Bool) (F : List D → FRes) (rs : List RV) (ρ : Env) : Res D := match getAll ρ rs, ownIdx fl rs with
  | some ds, some is => if (is.length ≤ 1 && is.all fun i => !(lent fl rs).contains i) = true then match F ds with
      | .ok r os => if fr = false ∧ lentOk (lent fl rs) r os = true then ofO (upO ρ is os) ρ |>.bind fun ρ' _ => .ok r ρ' else .bad
      | .okF r os => if fr = true ∧ lentOkF (lent fl rs) r os = true then ofO (upO ρ is os) ρ |>.bind fun ρ' _ => .ok r ρ' else .bad
      | .exc x os => if lentOk (lent fl rs) (.tup x.fs) os = true then ofO (upO ρ is os) ρ |>.bind fun ρ' _ => .exc x ρ' else .bad
      | .bad => .bad
    else .bad
  | _, _ => .bad
def eCall (fl : List Bool) (fr : Bool) (F : List D → FRes) (ma : AM) : EM := fun ρ => (ma ρ).bind (callG fl fr F)

section
variable {K : PySem.W.Frag} {B : Base} {M M' : Addr → Prop} {H H' : Hp} {ρ ρ2 : Env} {σ : St}
/-- the addresses of owned slots -/
inductive OwnAt (ρ : Env) (σ : St) : List Nat → List Addr → Prop
  | nil : OwnAt ρ σ [] []
  | cons {i : Nat} {s : Slot} {a : Addr} {is : List Nat} {as : List Addr} : ρ[i]? = some s → isOwn s = true → σ[i]? = some (some (V.ref a)) → OwnAt ρ σ is as → OwnAt ρ σ (i :: is) (a :: as)
theorem OwnAt.length {is : List Nat} {as : List Addr} (h : OwnAt ρ σ is as) : is.length = as.length := by
  induction h with
  | nil => rfl
  | cons _ _ _ _ ih => simp [ih]
/-- behind a call -/
theorem Rep.called (r : Rep K B M H ρ σ) {is : List Nat} {as : List Addr} {os : List D} (hi : OwnAt ρ σ is as) (hk : Kept as H H') (hm : ∀ b, M b → M' b) (hn : ∀ b, M' b → M b ∨ H b = none) (ht : ∀ b, M' b → H' b ≠ none)
    (hp : Paired (Ow K M' H') os as) (hu : upO ρ is os = some ρ2) : Rep K B M' H' ρ2 σ ∧ Ext M H M' H' := by
  have nn : ∀ {b : Addr} {o : HO}, H b = some o → ¬ M b → ¬ M' b := fun e n m => (hn _ m).elim n fun z => by rw [z] at e; cases e
  cases hi with
  | nil =>
    cases hp
    cases hu
    have x : Ext M H M' H' := fun b o e _ => ⟨hk b o e (fun z => by cases z), nn e⟩
    exact ⟨r.grow x (fun b o e => hk b o e fun z => by cases z) hm hn ht, x⟩
  | cons h1 h2 h3 h4 =>
    rename_i i s a is as
    cases h4 with
    | cons _ _ _ _ => cases hp with | cons _ hp => cases hp with | cons _ _ => cases hu
    | nil =>
      cases hp with
      | cons w hp =>
        cases hp
        rename_i d
        obtain ⟨a', d0, e1, w0, kd⟩ := (r.slot i s h1).own h2
        rw [of_join h3] at e1
        cases e1
        obtain ⟨o0, q0, im0⟩ := w0.there
        obtain ⟨u, qu, imu⟩ := w.there
        have hx2 : ∀ b o, H b = some o → upd H' a o0 b = some o := fun b o e => by
          by_cases z : b = a
          · subst z
            rw [q0] at e
            cases e
            exact upd_same
          · rw [upd_ne z]
            exact hk b o e fun z2 => by simp at z2; exact z z2
        have r2 : Rep K B M' (upd H' a o0) ρ σ := r.grow (fun b o e _ => ⟨hx2 b o e, nn e⟩) hx2 hm hn fun b hb => by
          by_cases z : b = a
          · subst z; rw [upd_same]; intro z; cases z
          · rw [upd_ne z]; exact ht b hb
        have eH : upd (upd H' a o0) a u = H' := by
          funext b
          by_cases z : b = a
          · subst z; rw [upd_same, qu]
          · rw [upd_ne z, upd_ne z]
        have r3 := r2.mutate (u := u) (s' := reSlot s d) h1 h2 h3 (by rw [eH]; exact w) rfl
        rw [eH] at r3
        have es : ρ2 = ρ.set i (reSlot s d) := by
          have hu : ownSet ρ i d = ρ2 := by injection hu
          unfold ownSet at hu
          rw [h1] at hu
          cases s with
          | no => cases h2
          | v _ => cases h2
          | o _ => cases hu; rfl
          | p _ => cases hu; rfl
        rw [es]
        refine ⟨r3, fun b o e h => ⟨hk b o e fun z => ?_, nn e⟩⟩
        simp at z
        subst z
        rw [q0] at e
        cases e
        exact h.elim (fun n => n w0.mem) im0
def Lend (l : List Nat) (M : Addr → Prop) (σ : St) : Addr → Prop := fun b => M b ∧ ∀ j ∈ l, σ[j]? ≠ some (some (V.ref b))
theorem Lend.nil {b : Addr} (h : M b) : Lend [] M σ b := ⟨h, fun _ z => by cases z⟩
/-- the arguments as the called def takes them -/
theorem args_of {ρ' : Env} (r : Rep K B M H ρ σ) (l : List Nat) (hl : ∀ j ∈ l, ∃ s, ρ[j]? = some s ∧ isOwn s = true) : ∀ {fl : List Bool} {rs : List RV} {vs : List V} {ds : List D} {is : List Nat}, Paired (fun r v => RelR K σ M H ρ' r v) rs vs → getAll ρ rs = some ds → ownIdx fl rs = some is →
    (∀ j ∈ lent fl rs, j ∈ l) → (∀ i ∈ is, i ∉ l) → ∃ as, ArgR K (Lend l M σ) H fl ds vs as ∧ OwnAt ρ σ is as
  | [], [], vs, ds, is, h, g, o, _, _ => by
    cases h; cases g; cases o
    exact ⟨[], trivial, .nil⟩
  | [], _ :: _, vs, ds, is, h, g, o, _, _ => by cases o
  | false :: fs, [], vs, ds, is, h, g, o, _, _ => by cases o
  | true :: fs, [], vs, ds, is, h, g, o, _, _ => by cases o
  | false :: fs, x :: rs, vs, ds, is, h, g, o, hj, hi => by
    cases h with
    | cons hx h =>
      unfold getAll at g
      cases e1 : x.get ρ with
      | none => rw [e1] at g; cases g
      | some d =>
        rw [e1] at g
        cases e2 : getAll ρ rs with
        | none => rw [e2] at g; cases g
        | some ds' =>
          rw [e2] at g
          cases g
          have hj2 : ∀ j ∈ lent fs rs, j ∈ l := fun j hm => hj j (by
            cases x with
            | val _ => exact hm
            | own _ => exact List.mem_cons_of_mem _ hm)
          obtain ⟨as, q1, q2⟩ := args_of r l hl (fl := fs) h e2 o hj2 hi
          refine ⟨as, ⟨?_, q1⟩, q2⟩
          cases x with
          | val d' => cases e1; exact Rp.ext (Ext.sub fun _ z => z.1) hx
          | own j =>
            obtain ⟨a, s, h1, h2, h3, w, _⟩ := own_at r e1
            have hv : σ[j]? = some (some _) := hx
            rw [h3] at hv
            cases hv
            refine Rp.ext (Ext.sub fun b z => ⟨z.1, fun eb => ?_⟩) w.rp
            subst eb
            exact z.2 j (hj j List.mem_cons_self) h3
  | true :: fs, .val _ :: rs, vs, ds, is, h, g, o, hj, hi => by cases o
  | true :: fs, .own i :: rs, vs, ds, is, h, g, o, hj, hi => by
    cases h with
    | cons hx h =>
      unfold getAll at g
      cases e1 : (RV.own i).get ρ with
      | none => rw [e1] at g; cases g
      | some d =>
        rw [e1] at g
        cases e2 : getAll ρ rs with
        | none => rw [e2] at g; cases g
        | some ds' =>
          rw [e2] at g
          cases g
          cases e3 : ownIdx fs rs with
          | none => simp only [ownIdx, e3] at o; cases o
          | some is' =>
            simp only [ownIdx, e3] at o
            cases o
            obtain ⟨as, q1, q2⟩ := args_of r l hl (fl := fs) h e2 e3 hj fun i hm => hi i (List.mem_cons_of_mem _ hm)
            obtain ⟨a, s, h1, h2, h3, w, _⟩ := own_at r e1
            have hv : σ[i]? = some (some _) := hx
            rw [h3] at hv
            cases hv
            refine ⟨a :: as, ⟨rfl, w.ext (Ext.sub fun _ z => z.1) ⟨w.mem, fun j hm e => ?_⟩ rfl, q1⟩, .cons h1 h2 h3 q2⟩
            obtain ⟨t, t1, t2⟩ := hl j hm
            exact r.apart i j s t a (fun eij => hi i List.mem_cons_self (eij ▸ hm)) h1 t1 h2 t2 h3 e
theorem lent_own {ρ : Env} : ∀ {fl : List Bool} {rs : List RV} {ds : List D}, getAll ρ rs = some ds → ∀ j ∈ lent fl rs, ∃ s, ρ[j]? = some s ∧ isOwn s = true
  | [], _, _, _, j, h => by cases h
  | false :: _, [], _, _, j, h => by cases h
  | true :: _, [], _, _, j, h => by cases h
  | b :: fs, x :: rs, ds, g, j, h => by
    unfold getAll at g
    cases e1 : x.get ρ with
    | none => rw [e1] at g; cases g
    | some d =>
      rw [e1] at g
      cases e2 : getAll ρ rs with
      | none => rw [e2] at g; cases g
      | some ds' =>
        rw [e2] at g
        have ih := lent_own (fl := fs) e2
        cases b with
        | true => exact ih j h
        | false =>
          cases x with
          | val _ => exact ih j h
          | own i =>
            rcases List.mem_cons.mp h with e | h
            · subst e
              unfold RV.get at e1
              cases e3 : ρ[j]? with
              | none => simp only [e3] at e1; cases e1
              | some s =>
                simp only [e3] at e1
                refine ⟨s, rfl, ?_⟩
                cases s with
                | no => cases e1
                | v _ => cases e1
                | o _ => rfl
                | p _ => rfl
            · exact ih j h
end

section
variable {X : Cx} {W : WX} {k : Nat} {f : Addr} {fd : FuncData} {ps : List Str} {x : Str} {p pos : Pos} {e : Expr} {es : List Expr} {fl : List Bool} {F : List D → FRes} {ma : AM} {t : TA}
theorem lend_back {K : PySem.W.Frag} {N N' : Addr → Prop} {H : Hp} {l : List Nat} {d : D} {v : V} (h : Rp K N H d v) (hN : l = [] → ∀ b, N' b → N b) (hf : (l.isEmpty || d.flat) = true) : Rp K N' H d v := by
  cases l with
  | nil => exact h.ext fun b o e _ => ⟨e, fun n z => n (hN rfl b z)⟩
  | cons a l => exact h.flat (by simpa using hf)
theorem lend_backO {K : PySem.W.Frag} {N N' : Addr → Prop} {H : Hp} {l : List Nat} {d : D} {a : Addr} (h : Ow K N H d a) (hs : ∀ b, N b → N' b) (hN : l = [] → ∀ b, N' b → N b) (hf : (l.isEmpty || d.flatO) = true) : Ow K N' H d a := by
  cases l with
  | nil => exact h.ext (fun b o e _ => ⟨e, fun n z => n (hN rfl b z)⟩) (hs _ h.mem) rfl
  | cons b l => exact h.flat (by simpa using hf) (hs _ h.mem)
theorem lend_backP {K : PySem.W.Frag} {N N' : Addr → Prop} {H : Hp} {l : List Nat} (hs : ∀ b, N b → N' b) (hN : l = [] → ∀ b, N' b → N b) : ∀ {os : List D} {as : List Addr}, Paired (Ow K N H) os as → (l.isEmpty || os.all D.flatO) = true → Paired (Ow K N' H) os as
  | [], _, h, _ => by cases h; exact .nil
  | d :: os, _, h, f => by
    cases h with
    | cons a b =>
      refine .cons (lend_backO a hs hN ?_) (lend_backP hs hN b ?_) <;> (cases l <;> simp_all)
theorem upO_own {ρ ρ2 : Env} {is : List Nat} {os : List D} (hu : upO ρ is os = some ρ2) {i : Nat} {s : Slot} (h : ρ2[i]? = some s) (o : isOwn s = true) : ∃ s', ρ[i]? = some s' ∧ isOwn s' = true := by
  match is, os, hu with
  | [], [], hu => cases hu; exact ⟨s, h, o⟩
  | [j], [d], hu =>
    have hu : ownSet ρ j d = ρ2 := by injection hu
    subst hu
    unfold ownSet at h
    cases e : ρ[j]? with
    | none => rw [e] at h; exact ⟨s, h, o⟩
    | some t =>
      rw [e] at h
      cases t with
      | no => exact ⟨s, h, o⟩
      | v _ => exact ⟨s, h, o⟩
      | o d2 =>
        by_cases z : j = i
        · subst z; exact ⟨_, e, rfl⟩
        · rw [List.getElem?_set_ne z] at h; exact ⟨s, h, o⟩
      | p d2 =>
        by_cases z : j = i
        · subst z; exact ⟨_, e, rfl⟩
        · rw [List.getElem?_set_ne z] at h; exact ⟨s, h, o⟩
theorem Kept.trk {as : List Addr} {H H' : Hp} {K : PySem.W.Frag} {M' : Addr → Prop} {os : List D} (hk : Kept as H H') (hp : Paired (Ow K M' H') os as) {b : Addr} (h : H b ≠ none) : H' b ≠ none := by
  by_cases z : b ∈ as
  · have go : ∀ {os : List D} {as : List Addr}, Paired (Ow K M' H') os as → b ∈ as → H' b ≠ none := by
      intro os as h
      induction h with
      | nil => intro z; cases z
      | cons w _ ih =>
        intro z
        rcases List.mem_cons.mp z with e | z
        · subst e
          obtain ⟨o, q, _⟩ := w.there
          rw [q]; intro z; cases z
        · exact ih z
    exact go hp z
  · cases q : H b with
    | none => exact absurd q h
    | some o => rw [hk b o q z]; intro z; cases z
theorem ExR.back {K : PySem.W.Frag} {mg : Str → Option Value} {M : Addr → Prop} {H : Hp} {σ : St} {l : List Nat} {xx : Exn} {c : Value} {dx : Option Addr} (h : ExR K mg (Lend l M σ) H xx c dx) (hf : (l.isEmpty || flatL xx.fs) = true) : ExR K mg M H xx c dx := by
  obtain ⟨C, h1, h2, h3⟩ := h
  refine ⟨C, h1, h2, ?_⟩
  split at h3
  · rename_i e; exact h3
  · rename_i d e
    obtain ⟨a, v, e1, e2, e3⟩ := h3
    refine ⟨a, v, e1, e2, lend_back (l := l) e3 (fun e b h => by subst e; exact Lend.nil h) ?_⟩
    rw [e] at hf
    simpa [flatL] using hf
  · exact h3
theorem call_sat {fr : Bool} (s : Sat X W (fun _ σ => RelA X.K σ) t ma) :
    Sat X W (fun B σ => if fr then RelF X.K B σ else RelE X.K) (tCallS (spF X.K X.mg fl F) (WE W) t) (eCall fl fr F ma) := by
  intro B M H ρ σ Q rp k
  refine s B M H ρ σ _ rp (Post.seq k fun rs ρ1 M1 H1 vs x1 r1 q1 k1 => ?_)
  unfold callG at k1
  cases eg : getAll ρ1 rs with
  | none => simp only [eg] at k1; exact k1.elim
  | some ds =>
    cases ei : ownIdx fl rs with
    | none => simp only [eg, ei] at k1; exact k1.elim
    | some is =>
      simp only [eg, ei] at k1
      by_cases hc : (decide (is.length ≤ 1) && is.all fun i => !(lent fl rs).contains i) = true
      · rw [if_pos hc] at k1
        rw [Bool.and_eq_true] at hc
        obtain ⟨hc1, hc2⟩ := hc
        have hc1 : is.length ≤ 1 := by simpa using hc1
        have hc2 : ∀ i ∈ is, i ∉ lent fl rs := fun i hm z => by
          have q := List.all_eq_true.mp hc2 i hm
          simp at q
          exact q z
        obtain ⟨as, ha, hi⟩ := args_of (fl := fl) r1 (lent fl rs) (lent_own eg) q1 eg ei (fun _ h => h) hc2
        have la := hi.length
        have nd : as.Nodup := by
          match as, (show as.length ≤ 1 by omega) with
          | [], _ => exact List.nodup_nil
          | [a], _ => simp
        refine ⟨Lend (lent fl rs) M1 σ, ds, as, fun b h => r1.trk b h.1, nd, ha, ?_⟩
        have hN0 : lent fl rs = [] → ∀ b, M1 b → Lend (lent fl rs) M1 σ b := fun e b h => by rw [e]; exact Lend.nil h
        cases eF : F ds with
        | ok r os =>
          simp only [eF] at k1 ⊢
          by_cases hl : fr = false ∧ lentOk (lent fl rs) r os = true
          · rw [if_pos hl] at k1
            obtain ⟨hfr, hl⟩ := hl
            subst hfr
            unfold lentOk at hl
            intro H2 v hk hp hr
            cases eu : upO ρ1 is os with
            | none => simp only [eu] at k1; exact k1.elim
            | some ρ2 =>
              simp only [eu] at k1
              have hp' := lend_backP (N' := M1) (l := lent fl rs) (fun _ h => h.1) hN0 hp (by cases h : (lent fl rs).isEmpty <;> simp_all)
              obtain ⟨r2, x2⟩ := r1.called hi hk (fun _ h => h) (fun _ h => .inl h) (fun b h => hk.trk hp (r1.trk b h)) hp' eu
              exact k1 M1 H2 v x2 r2 (lend_back (l := lent fl rs) hr hN0 (by cases h : (lent fl rs).isEmpty <;> simp_all))
          · rw [if_neg hl] at k1; exact k1.elim
        | okF r os =>
          simp only [eF] at k1 ⊢
          by_cases hl : fr = true ∧ lentOkF (lent fl rs) r os = true
          · rw [if_pos hl] at k1
            obtain ⟨hfr, hl⟩ := hl
            subst hfr
            unfold lentOkF at hl
            intro H2 a hk hn hp hr
            cases eu : upO ρ1 is os with
            | none => simp only [eu] at k1; exact k1.elim
            | some ρ2 =>
              simp only [eu] at k1
              have hs1 : ∀ b, (Lend (lent fl rs) M1 σ b ∨ b = a) → (M1 b ∨ b = a) := fun b h => h.imp (fun z => z.1) id
              have hN1 : lent fl rs = [] → ∀ b, (M1 b ∨ b = a) → (Lend (lent fl rs) M1 σ b ∨ b = a) := fun e b h => h.imp (hN0 e b) id
              have hp' := lend_backP (N' := fun b => M1 b ∨ b = a) (l := lent fl rs) hs1 hN1 hp (by cases h : (lent fl rs).isEmpty <;> simp_all)
              have w := lend_backO (N' := fun b => M1 b ∨ b = a) (l := lent fl rs) hr hs1 hN1 (by cases h : (lent fl rs).isEmpty <;> simp_all)
              obtain ⟨r2, x2⟩ := r1.called hi hk (fun _ h => .inl h) (fun b h => h.imp id fun e => by rw [e]; exact hn) (fun b h => h.elim (fun h => hk.trk hp (r1.trk b h)) fun e => by
                rw [e]
                obtain ⟨o, q, _⟩ := w.there
                rw [q]; intro z; cases z) hp' eu
              refine k1 _ H2 _ x2 r2 ⟨a, rfl, w, ?_, fun i s hi ho e => ?_, fun p hm e => ?_⟩
              · cases q : B.H a with
                | none => rfl
                | some o => exact absurd hn (r1.old a (by rw [q]; intro z; cases z))
              · obtain ⟨s', h1, h2⟩ := upO_own eu hi ho
                obtain ⟨a', d0, e1, w0, _⟩ := (r1.slot i s' h1).own h2
                rw [of_join e] at e1
                cases e1
                obtain ⟨o, q, _⟩ := w0.there
                rw [hn] at q
                cases q
              · have q := (r1.pr p hm).1
                rw [e, hn] at q
                cases q
          · rw [if_neg hl] at k1; exact k1.elim
        | exc xx os =>
          simp only [eF] at k1 ⊢
          by_cases hl : lentOk (lent fl rs) (.tup xx.fs) os = true
          · rw [if_pos hl] at k1
            unfold lentOk at hl
            intro H2 c dx hk hp hr
            cases eu : upO ρ1 is os with
            | none => simp only [eu] at k1; exact k1.elim
            | some ρ2 =>
              simp only [eu] at k1
              have hp' := lend_backP (N' := M1) (l := lent fl rs) (fun _ h => h.1) hN0 hp (by cases h : (lent fl rs).isEmpty <;> simp_all)
              obtain ⟨r2, x2⟩ := r1.called hi hk (fun _ h => h) (fun _ h => .inl h) (fun b h => hk.trk hp (r1.trk b h)) hp' eu
              exact k1 M1 H2 c dx x2 r2 (hr.back (by cases h : (lent fl rs).isEmpty <;> simp_all [D.flat]))
          · rw [if_neg hl] at k1; exact k1.elim
        | bad => simp only [eF] at k1; exact k1.elim
      · rw [if_neg hc] at k1; exact k1.elim
theorem de_call (hF : FnOk X.prog X.w X.K X.mg X.base (L2.CX X.prog X.w) k f fd ps (spF X.K X.mg fl F)) (hr : Room k X.A) (hg : Gl X x) (hm : X.mg x = some (.ref f)) (hk : PySem.W.keepIn X.K (.ref f) = true) (hb : Binds X.K fd ps []) (tk : Takes X W) (ha : DA X W (e :: es) ma)
    (hdb : (x == ("__debug__" : Str)) = false := by decide) (he : starEach (e :: es) X.env = (false, eval e X.env) :: starEach es X.env := by rfl) (hpl : (backTo pos (starEach es X.env)).any (·.1) = false := by rfl) : DE X W (.Call (.Name x p) (e :: es) [] pos) (eCall fl false F ma) := by
  obtain ⟨t, pt, s⟩ := ha
  exact ⟨_, pe_callS hF hr hg hm hk hb (fun σ => passAt tk σ) pt hdb he hpl, call_sat (fr := false) s⟩
theorem df_call (hF : FnOk X.prog X.w X.K X.mg X.base (L2.CX X.prog X.w) k f fd ps (spF X.K X.mg fl F)) (hr : Room k X.A) (hg : Gl X x) (hm : X.mg x = some (.ref f)) (hk : PySem.W.keepIn X.K (.ref f) = true) (hb : Binds X.K fd ps []) (tk : Takes X W) (ha : DA X W (e :: es) ma)
    (hdb : (x == ("__debug__" : Str)) = false := by decide) (he : starEach (e :: es) X.env = (false, eval e X.env) :: starEach es X.env := by rfl) (hpl : (backTo pos (starEach es X.env)).any (·.1) = false := by rfl) : DF X W (.Call (.Name x p) (e :: es) [] pos) (eCall fl true F ma) := by
  obtain ⟨t, pt, s⟩ := ha
  exact ⟨_, pe_callS hF hr hg hm hk hb (fun σ => passAt tk σ) pt hdb he hpl, call_sat (fr := true) s⟩
end
end NV

set_option Elab.async false
set_option linter.all false
set_option maxRecDepth 100000
set_option maxHeartbeats 4000000
/-! Core9: value tests, built-in functions. -/
namespace NV
open PySem PySem.Spec PyProof.Rows L2

section
variable {X : Cx} {W : WX} {a b : Expr} {rest : List Expr} {pos : Pos} {ea eb : EM}
/-! ### and, or, not as values -/
theorem truV_rp {M : Addr → Prop} {H : Hp} {d : D} {v : V} {k : Bool} (h : Rp X.K M H d v) (e : truthy d = some k) : TruV X.K v H k := truV_of h.rq e
theorem de_and (ha : DE X W a ea) (hb : DE X W (.BoolOp .And (b :: rest) pos) eb) : DE X W (.BoolOp .And (a :: b :: rest) pos) (eAnd ea eb) := by
  obtain ⟨t, pt, s⟩ := ha
  obtain ⟨u, pu, s'⟩ := hb
  refine ⟨_, pe_andT pt pu, fun B M H ρ σ Q rp k => s B M H ρ σ _ rp (Post.seq k fun d ρ1 M1 H1 v x1 r1 q1 k1 => ?_)⟩
  cases e : truthy d with
  | none => rw [e] at k1; exact k1.elim
  | some c =>
    rw [e] at k1
    refine ⟨c, truV_rp q1 e, ?_⟩
    cases c with
    | true => exact iteT (s' B M1 H1 ρ1 σ Q r1 k1)
    | false => exact iteF (k1 M1 H1 v Ext.refl r1 q1)
theorem de_or (ha : DE X W a ea) (hb : DE X W (.BoolOp .Or (b :: rest) pos) eb) : DE X W (.BoolOp .Or (a :: b :: rest) pos) (eOr ea eb) := by
  obtain ⟨t, pt, s⟩ := ha
  obtain ⟨u, pu, s'⟩ := hb
  refine ⟨_, pe_orT pt pu, fun B M H ρ σ Q rp k => s B M H ρ σ _ rp (Post.seq k fun d ρ1 M1 H1 v x1 r1 q1 k1 => ?_)⟩
  cases e : truthy d with
  | none => rw [e] at k1; exact k1.elim
  | some c =>
    rw [e] at k1
    refine ⟨c, truV_rp q1 e, ?_⟩
    cases c with
    | true => exact iteT (k1 M1 H1 v Ext.refl r1 q1)
    | false => exact iteF (s' B M1 H1 ρ1 σ Q r1 k1)
theorem de_not (ha : DE X W a ea) : DE X W (.UnaryOp .Not a pos) (eNot ea) := by
  obtain ⟨t, pt, s⟩ := ha
  refine ⟨_, pe_notT pt, fun B M H ρ σ Q rp k => s B M H ρ σ _ rp (Post.seq k fun d ρ1 M1 H1 v x1 r1 q1 k1 => ?_)⟩
  cases e : truthy d with
  | none => rw [e] at k1; exact k1.elim
  | some c =>
    rw [e] at k1
    exact ⟨c, truV_rp q1 e, k1 M1 H1 _ Ext.refl r1 (.bl _)⟩
end

section
variable {X : Cx} {W : WX} {B : Base} {M : Addr → Prop} {H : Hp} {ρ : Env} {σ : St} {Q : V → Hp → Prop}
/-! ### order of data that are alike -/
def okOrd (d e : D) : Bool := okD 64 d && okD 64 e && PySem.W.alike (toPy d) (toPy e) && !(isNon d)
def ordO (f : PyData → PyData → Bool) (d e : D) : Option D := if okOrd d e then some (.bl (f (toPy d) (toPy e))) else none
def rOrd (K : PySem.W.Frag) (f : PyData → PyData → Bool) : R2 := fun x y H Q => ∃ d e, Dp K H x d ∧ Dp K H y e ∧ PySem.W.alike d e = true ∧ d ≠ .none ∧ d.depth ≤ 64 ∧ Q (.bl (f d e)) H
theorem op_ord {op : CmpOp} {f : PyData → PyData → Bool} (c : Cd X)
    (hop : ∀ (s : Shared) (a b : Value) (da db : PyData) (as bs : List Addr) (Q : Value → Shared → Prop), Reads s.heap a da as → Reads s.heap b db bs → PySem.W.alike da db = true → da ≠ .none → X.A.units + min da.depth db.depth < cLine → Q (.bool (f da db)) s → wpAny (model X.prog X.w) X.A (compareOp op a b) Q X.xe s) :
    OpR X (compareOp op) (rOrd X.K f) := by
  intro pins s σ H x y v u Q I rx ry h
  obtain ⟨d, e, hd, he, al, nn, dp, q⟩ := h
  obtain ⟨as, r1⟩ := Dp.reads I d x v hd rx
  obtain ⟨bs, r2⟩ := Dp.reads I e y u he ry
  have hu := c.units
  exact hop s v u d e as bs _ r1 r2 al nn (by omega) ⟨.bl _, H, I, rfl, q⟩
theorem op_ltD (c : Cd X) : OpR X (compareOp .Lt) (rOrd X.K PySem.W.dataLt) := op_ord c fun s a b da db as bs Q h1 h2 h3 h4 h5 h6 => PySem.W.lt_data h1 h2 h3 h4 h5 h6
theorem op_gtD (c : Cd X) : OpR X (compareOp .Gt) (rOrd X.K fun d e => PySem.W.dataLt e d) := op_ord c fun s a b da db as bs Q h1 h2 h3 h4 h5 h6 => PySem.W.gt_data h1 h2 h3 h4 h5 h6
theorem op_leD (c : Cd X) : OpR X (compareOp .LtE) (rOrd X.K fun d e => !PySem.W.dataLt e d) := op_ord c fun s a b da db as bs Q h1 h2 h3 h4 h5 h6 => PySem.W.le_data h1 h2 h3 h4 h5 h6
theorem op_geD (c : Cd X) : OpR X (compareOp .GtE) (rOrd X.K fun d e => !PySem.W.dataLt d e) := op_ord c fun s a b da db as bs Q h1 h2 h3 h4 h5 h6 => PySem.W.ge_data h1 h2 h3 h4 h5 h6
theorem o_ord {f : PyData → PyData → Bool} : OpE X (ordO f) (rOrd X.K f) := by
  intro B W M H ρ σ d e z x y Q rp hx hy hf h
  unfold ordO at hf
  split at hf
  · rename_i hc
    cases hf
    unfold okOrd at hc
    simp only [Bool.and_eq_true] at hc
    obtain ⟨⟨⟨h1, h2⟩, h3⟩, h4⟩ := hc
    refine ⟨_, _, (Rq.dp h1 hx).1, (Rq.dp h2 hy).1, h3, fun e => ?_, okD.depth 64 d h1, post_v h rp (.bl _)⟩
    cases d <;> simp [toPy, isNon] at e h4
  · cases hf

/-! ### len, int, max, min .. -/
def lenD : List D → Option D
  | [.str x] => some (.int x.length)
  | [.tup xs] => some (.int xs.length)
  | [.lst xs] => some (.int xs.length)
  | [.scr xs] => some (.int xs.length)
  | _ => none
theorem f_len : CallE X lenD (fun xs H Q => ∃ x n, xs = [x] ∧ LenV X.K x H n ∧ Q (.int n) H) := by
  intro B W M H ρ σ ds z xs Q rp hp hf h
  unfold lenD at hf
  split at hf
  · cases hf
    cases hp with | cons a b => cases b; obtain ⟨rfl, g⟩ := rq_str a; exact ⟨_, _, rfl, ⟨g.1, rfl⟩, post_v h rp (.int _)⟩
  · cases hf
    cases hp with | cons a b => cases b; obtain ⟨p, vs, rfl, l, h1, h2⟩ := rq_tup a; exact ⟨_, vs.length, rfl, .inr ⟨_, h1, rfl⟩, by rw [← h2.length]; exact post_v h rp (.int _)⟩
  · cases hf
    cases hp with | cons a b => cases b; obtain ⟨p, vs, rfl, l, h1, h2⟩ := rq_lst a; exact ⟨_, vs.length, rfl, .inl ⟨_, SqL.of h1, rfl⟩, by rw [← h2.length]; exact post_v h rp (.int _)⟩
  · cases hf
    rename_i ys
    cases hp with | cons a b => cases b; obtain ⟨p, rfl, l, h1⟩ := rq_scr a; exact ⟨_, (ys.map V.int).length, rfl, .inl ⟨_, h1.sql, rfl⟩, by rw [List.length_map]; exact post_v h rp (.int _)⟩
  · cases hf
def intD : List D → Option D
  | [.int i] => some (.int i)
  | [.bl b] => some (.int (if b then 1 else 0))
  | _ => none
theorem f_int : CallE X intD (fun xs H Q => (∃ i, xs = [.int i] ∧ Q (.int i) H) ∨ ∃ k, xs = [.bl k] ∧ Q (.int (if k then 1 else 0)) H) := by
  intro B W M H ρ σ ds z xs Q rp hp hf h
  unfold intD at hf
  split at hf
  · cases hf
    cases hp with | cons a b => cases b; obtain rfl := rq_int a; exact .inl ⟨_, rfl, post_v h rp (.int _)⟩
  · cases hf
    cases hp with | cons a b => cases b; obtain rfl := rq_bl a; exact .inr ⟨_, rfl, post_v h rp (.int _)⟩
  · cases hf
def max2D : List D → Option D
  | [.int i, .int j] => some (.int (if j > i then j else i))
  | _ => none
def min2D : List D → Option D
  | [.int i, .int j] => some (.int (if j < i then j else i))
  | _ => none
theorem f_max2 : CallE X max2D (fun xs H Q => ∃ i j, xs = [.int i, .int j] ∧ Q (.int (if j > i then j else i)) H) := by
  intro B W M H ρ σ ds z xs Q rp hp hf h
  unfold max2D at hf
  split at hf
  · cases hf
    cases hp with | cons a b => cases b with | cons b c => cases c; obtain rfl := rq_int a; obtain rfl := rq_int b; exact ⟨_, _, rfl, post_v h rp (.int _)⟩
  · cases hf
theorem f_min2 : CallE X min2D (fun xs H Q => ∃ i j, xs = [.int i, .int j] ∧ Q (.int (if j < i then j else i)) H) := by
  intro B W M H ρ σ ds z xs Q rp hp hf h
  unfold min2D at hf
  split at hf
  · cases hf
    cases hp with | cons a b => cases b with | cons b c => cases c; obtain rfl := rq_int a; obtain rfl := rq_int b; exact ⟨_, _, rfl, post_v h rp (.int _)⟩
  · cases hf
def intsOf : List D → Option (List Int)
  | [] => some []
  | .int i :: ds => (intsOf ds).map fun l => i :: l
  | _ => none
theorem ints_rpl : ∀ {ds : List D} {ns : List Int} {vs : List V}, intsOf ds = some ns → RpL X.K M H ds vs → vs = ns.map V.int ∧ ds = ns.map D.int
  | [], ns, vs, e, h => by cases e; cases h; exact ⟨rfl, rfl⟩
  | d :: ds, ns, vs, e, h => by
    cases d with
    | int i =>
      cases h with
      | cons a b =>
        cases e2 : intsOf ds with
        | none => simp only [intsOf, e2] at e; cases e
        | some l =>
          simp only [intsOf, e2] at e
          cases e
          cases a
          obtain ⟨e3, e4⟩ := ints_rpl e2 b
          exact ⟨by rw [e3]; rfl, by rw [e4]; rfl⟩
    | _ => cases e
/-- the least, the greatest of ints -/
def minL : List Int → Int
  | [] => 0
  | [i] => i
  | i :: l => min i (minL l)
def maxL : List Int → Int
  | [] => 0
  | [i] => i
  | i :: l => max i (maxL l)
theorem minL_le : ∀ {l : List Int} {y : Int}, y ∈ l → minL l ≤ y
  | [], y, h => by cases h
  | [i], y, h => by simp at h; subst h; exact Int.le_refl _
  | i :: j :: l, y, h => by
    have e : minL (i :: j :: l) = min i (minL (j :: l)) := rfl
    rw [e]
    rcases List.mem_cons.mp h with h | h
    · subst h; omega
    · have := minL_le h; omega
theorem minL_mem : ∀ {l : List Int}, l ≠ [] → minL l ∈ l
  | [], h => absurd rfl h
  | [i], h => by simp [minL]
  | i :: j :: l, h => by
    have e : minL (i :: j :: l) = min i (minL (j :: l)) := rfl
    have q := minL_mem (l := j :: l) (by simp)
    rw [e]
    by_cases z : i ≤ minL (j :: l)
    · rw [Int.min_eq_left z]; exact List.mem_cons_self
    · rw [Int.min_eq_right (by omega)]; exact List.mem_cons_of_mem _ q
theorem maxL_ge : ∀ {l : List Int} {y : Int}, y ∈ l → y ≤ maxL l
  | [], y, h => by cases h
  | [i], y, h => by simp at h; subst h; exact Int.le_refl _
  | i :: j :: l, y, h => by
    have e : maxL (i :: j :: l) = max i (maxL (j :: l)) := rfl
    rw [e]
    rcases List.mem_cons.mp h with h | h
    · subst h; omega
    · have := maxL_ge h; omega
theorem maxL_mem : ∀ {l : List Int}, l ≠ [] → maxL l ∈ l
  | [], h => absurd rfl h
  | [i], h => by simp [maxL]
  | i :: j :: l, h => by
    have e : maxL (i :: j :: l) = max i (maxL (j :: l)) := rfl
    have q := maxL_mem (l := j :: l) (by simp)
    rw [e]
    by_cases z : maxL (j :: l) ≤ i
    · rw [Int.max_eq_left z]; exact List.mem_cons_self
    · rw [Int.max_eq_right (by omega)]; exact List.mem_cons_of_mem _ q
def listI (f : List Int → Option D) : List D → Option D
  | [.lst ds] => (intsOf ds).bind f
  | [.scr ns] => f ns
  | _ => none
theorem list_ints {ds : List D} {xs : List V} {f : List Int → Option D} {z : D} (hp : Paired (Rq X.K M H) ds xs) (hf : listI f ds = some z) : ∃ a ns, xs = [V.ref a] ∧ SqL X.K H a (ns.map V.int) ∧ f ns = some z := by
  unfold listI at hf
  split at hf
  · cases hp with
    | cons a b =>
      cases b
      obtain ⟨p, vs, rfl, l, h1, h2⟩ := rq_lst a
      rename_i ds'
      cases e : intsOf ds' with
      | none => rw [e] at hf; cases hf
      | some ns =>
        rw [e] at hf
        obtain ⟨e1, _⟩ := ints_rpl e h2
        exact ⟨_, ns, rfl, e1 ▸ SqL.of h1, hf⟩
  · cases hp with
    | cons a b =>
      cases b
      obtain ⟨p, rfl, l, h1⟩ := rq_scr a
      exact ⟨_, _, rfl, h1.sql, hf⟩
  · cases hf
def sumD : List D → Option D := listI fun l => some (.int l.sum)
def minD : List D → Option D := listI fun l => if l.isEmpty then none else some (.int (minL l))
def maxD : List D → Option D := listI fun l => if l.isEmpty then none else some (.int (maxL l))
theorem f_sum : CallE X sumD (rSum X.K) := by
  intro B W M H ρ σ ds z xs Q rp hp hf h
  obtain ⟨a, ns, rfl, hs, e⟩ := list_ints hp hf
  cases e
  exact ⟨a, ns, rfl, hs, post_v h rp (.int _)⟩
theorem f_min : CallE X minD (rMin X.K) := by
  intro B W M H ρ σ ds z xs Q rp hp hf h
  obtain ⟨a, ns, rfl, hs, e⟩ := list_ints hp hf
  cases ns with
  | nil => cases e
  | cons n ns =>
    cases e
    refine ⟨a, _, rfl, hs, by simp, fun m h1 h2 => ?_⟩
    have : m = minL (n :: ns) := Int.le_antisymm (h2 _ (minL_mem (by simp))) (minL_le h1)
    rw [this]
    exact post_v h rp (.int _)
theorem f_max : CallE X maxD (rMax X.K) := by
  intro B W M H ρ σ ds z xs Q rp hp hf h
  obtain ⟨a, ns, rfl, hs, e⟩ := list_ints hp hf
  cases ns with
  | nil => cases e
  | cons n ns =>
    cases e
    refine ⟨a, _, rfl, hs, by simp, fun m h1 h2 => ?_⟩
    have : m = maxL (n :: ns) := Int.le_antisymm (maxL_ge h1) (h2 _ (maxL_mem (by simp)))
    rw [this]
    exact post_v h rp (.int _)
/-- sorted, ints -/
def insI (i : Int) : List Int → List Int
  | [] => [i]
  | j :: l => if i ≤ j then i :: j :: l else j :: insI i l
def sortI (l : List Int) : List Int := l.foldr insI []
theorem insI_perm (i : Int) : ∀ l, (insI i l).Perm (i :: l)
  | [] => .refl _
  | j :: l => by
    unfold insI
    split
    · exact .refl _
    · exact ((insI_perm i l).cons j).trans (List.Perm.swap i j l)
theorem sortI_perm : ∀ l, (sortI l).Perm l
  | [] => .refl _
  | i :: l => (insI_perm i (sortI l)).trans ((sortI_perm l).cons i)
theorem insI_sorted (i : Int) : ∀ l : List Int, l.Pairwise (· ≤ ·) → (insI i l).Pairwise (· ≤ ·)
  | [], _ => List.pairwise_singleton _ _
  | j :: l, h => by
    unfold insI
    have h1 := List.pairwise_cons.mp h
    split
    · rename_i q
      refine List.pairwise_cons.mpr ⟨fun y hy => ?_, h⟩
      rcases List.mem_cons.mp hy with e | hy
      · subst e; exact q
      · exact Int.le_trans q (h1.1 y hy)
    · refine List.pairwise_cons.mpr ⟨fun y hy => ?_, insI_sorted i l h1.2⟩
      rcases List.mem_cons.mp ((insI_perm i l).mem_iff.mp hy) with e | hy
      · subst e; omega
      · exact h1.1 y hy
theorem sortI_sorted : ∀ l, (sortI l).Pairwise (· ≤ ·)
  | [] => .nil
  | i :: l => insI_sorted i _ (sortI_sorted l)
def sortedD : List D → Option D := listI fun l => if l.length < 64 then some (.lst ((sortI l).map .int)) else none
theorem rpl_ints {K : PySem.W.Frag} : ∀ ns : List Int, RpL K M H (ns.map D.int) (ns.map V.int)
  | [] => .nil
  | i :: ns => .cons (.int i) (rpl_ints ns)
theorem f_sorted : CallF X sortedD (rSorted X.K) := by
  intro B W M H ρ σ ds z xs Q rp hp hf h
  obtain ⟨a, ns, rfl, hs, e⟩ := list_ints hp hf
  split at e
  · rename_i hl
    cases e
    refine ⟨a, ns, rfl, hs, hl, fun ns' p hpm hso hn => ?_⟩
    have e2 : ns' = sortI ns := List.Perm.eq_of_pairwise (le := fun a b : Int => decide (a ≤ b)) (by intro a b _ _ h1 h2; simp at h1 h2; omega) (by simpa using hso) (by simpa using sortI_sorted ns) (hpm.trans (sortI_perm ns).symm)
    subst e2
    exact post_o h rp (rpl_ints _) (by rw [List.length_map, (sortI_perm ns).length_eq, sizeLine_eq]; omega) hn
  · cases e
def tupleD : List D → Option D
  | [.lst xs] => some (.tup xs)
  | [.tup xs] => some (.tup xs)
  | _ => none
theorem f_tuple : CallE X tupleD (fun xs H Q => ∃ p ys, xs = [.ref p] ∧ ((SqL X.K H p ys ∧ ∀ l, H l = none → Q (.ref l) (upd H l (.tup ys))) ∨ (SqT X.K H p ys ∧ Q (.ref p) H))) := by
  intro B W M H ρ σ ds z xs Q rp hp hf h
  unfold tupleD at hf
  split at hf
  · cases hf
    cases hp with | cons a b => cases b; obtain ⟨p, vs, rfl, l, h1, h2⟩ := rq_lst a; exact ⟨_, vs, rfl, .inl ⟨SqL.of h1, fun q hq => post_t h rp h2 l hq⟩⟩
  · cases hf
    cases hp with | cons a b => cases b; obtain ⟨p, vs, rfl, l, h1, h2⟩ := rq_tup a; exact ⟨_, vs, rfl, .inr ⟨h1, post_v h rp (.tup l h1 h2)⟩⟩
  · cases hf
def listD : List D → Option D
  | [.lst xs] => some (.lst xs)
  | [.tup xs] => some (.lst xs)
  | _ => none
theorem f_list : CallF X listD (fun xs H Q => ∃ p ys, xs = [.ref p] ∧ (SqL X.K H p ys ∨ SqT X.K H p ys) ∧ ∀ l, H l = none → Q (.ref l) (upd H l (.lst ys))) := by
  intro B W M H ρ σ ds z xs Q rp hp hf h
  unfold listD at hf
  split at hf
  · cases hf
    cases hp with | cons a b => cases b; obtain ⟨p, vs, rfl, l, h1, h2⟩ := rq_lst a; exact ⟨_, vs, rfl, .inl (SqL.of h1), fun q hq => post_o h rp h2 l hq⟩
  · cases hf
    cases hp with | cons a b => cases b; obtain ⟨p, vs, rfl, l, h1, h2⟩ := rq_tup a; exact ⟨_, vs, rfl, .inr h1, fun q hq => post_o h rp h2 l hq⟩
  · cases hf
def blsOf : List D → Option (List Bool)
  | [] => some []
  | .bl i :: ds => (blsOf ds).map fun l => i :: l
  | _ => none
theorem bls_rpl : ∀ {ds : List D} {ns : List Bool} {vs : List V}, blsOf ds = some ns → RpL X.K M H ds vs → vs = ns.map V.bl
  | [], ns, vs, e, h => by cases e; cases h; rfl
  | d :: ds, ns, vs, e, h => by
    cases d with
    | bl i =>
      cases h with
      | cons a b =>
        cases e2 : blsOf ds with
        | none => simp only [blsOf, e2] at e; cases e
        | some l =>
          simp only [blsOf, e2] at e
          cases e
          cases a
          rw [bls_rpl e2 b]; rfl
    | _ => cases e
def listB (f : List Bool → D) : List D → Option D
  | [.lst ds] => (blsOf ds).map f
  | _ => none
def anyD2 : List D → Option D := listB fun l => .bl (l.any id)
def allD2 : List D → Option D := listB fun l => .bl (l.all id)
theorem f_any : CallE X anyD2 (rAny X.K) := by
  intro B W M H ρ σ ds z xs Q rp hp hf h
  unfold anyD2 listB at hf
  split at hf
  · cases hp with
    | cons a b =>
      cases b
      obtain ⟨p, vs, rfl, l, h1, h2⟩ := rq_lst a
      rename_i ds'
      cases e : blsOf ds' with
      | none => rw [e] at hf; cases hf
      | some ns =>
        rw [e] at hf
        cases hf
        obtain rfl := bls_rpl e h2
        exact ⟨_, ns, rfl, SqL.of h1, post_v h rp (.bl _)⟩
  · cases hf
theorem f_all : CallE X allD2 (rAll X.K) := by
  intro B W M H ρ σ ds z xs Q rp hp hf h
  unfold allD2 listB at hf
  split at hf
  · cases hp with
    | cons a b =>
      cases b
      obtain ⟨p, vs, rfl, l, h1, h2⟩ := rq_lst a
      rename_i ds'
      cases e : blsOf ds' with
      | none => rw [e] at hf; cases hf
      | some ns =>
        rw [e] at hf
        cases hf
        obtain rfl := bls_rpl e h2
        exact ⟨_, ns, rfl, SqL.of h1, post_v h rp (.bl _)⟩
  · cases hf
def strD : List D → Option D
  | [.int i] => if i.natAbs.log2 < 1920 ∧ decide ((toString i).length ≤ sizeLine) && PySem.PyData.strOk (toString i : Str) then some (.str (toString i)) else none
  | _ => none
end
end NV

set_option Elab.async false
set_option linter.all false
set_option maxRecDepth 100000
set_option maxHeartbeats 4000000
/-! Core10: isinstance, tuple(range(..)), list(range(..)). -/
namespace NV
open PySem PySem.Spec PyProof.Rows L2

/-- the name of a value's type -/
def typ : D → String
  | .non => "NoneType"
  | .bl _ => "bool"
  | .int _ => "int"
  | .str _ => "str"
  | .tup _ => "tuple"
  | .lst _ => "list"
  | .dct _ => "dict"
  | .scr _ => "list"
  | .exn _ _ => "object"
inductive TyN where
  | bool | int | str | tuple | list | dict
def TyN.nm : TyN → String
  | .bool => "bool"
  | .int => "int"
  | .str => "str"
  | .tuple => "tuple"
  | .list => "list"
  | .dict => "dict"
def isT (T : TyN) (d : D) : Option D := match d, T with
  | .non, _ => some (.bl false)
  | .bl _, .bool => some (.bl true)
  | .bl _, .int => some (.bl true)
  | .bl _, _ => some (.bl false)
  | .int _, .int => some (.bl true)
  | .int _, _ => some (.bl false)
  | .str _, .str => some (.bl true)
  | .str _, _ => some (.bl false)
  | .tup _, .tuple => some (.bl true)
  | .tup _, _ => some (.bl false)
  | .lst _, .list => some (.bl true)
  | .lst _, _ => some (.bl false)
  | .dct _, .dict => some (.bl true)
  | .dct _, _ => some (.bl false)
  | .scr _, .list => some (.bl true)
  | .scr _, _ => some (.bl false)
  | .exn _ _, _ => none
theorem kit_typ {T : TyN} {d z : D} (h : isT T d = some z) : ∃ b, z = .bl b ∧ kitB (typ d) T.nm = some b := by
  cases d <;> cases T <;> cases h <;> exact ⟨_, rfl, by dsimp only [typ, TyN.nm]; decide +kernel⟩
theorem tyX_of {K : PySem.W.Frag} {M : Addr → Prop} {H : Hp} {d : D} {v : V} (h : Rq K M H d v) (hx : typ d ≠ "object") : TyX K H v (.type (typ d)) := by
  cases d with
  | non => cases h; exact .base .non
  | bl b => cases h; exact .base (.bl _)
  | int i => cases h; exact .base (.int _)
  | str x => cases h; exact .base (.str _)
  | tup ds =>
    obtain ⟨a, vs, rfl, l, h1, h2⟩ := rq_tup h
    rcases h1 with (h1 | ⟨o, h1⟩) | ⟨o, its, n, h1, h2, _⟩
    · exact .base (.tup h1)
    · exact .fTuple h1
    · exact .kTuple h1 h2
  | lst ds =>
    obtain ⟨a, vs, rfl, l, h1, h2⟩ := rq_lst h
    exact .base (.lst h1)
  | dct ds =>
    obtain ⟨a, vs, rfl, l, h1, h2⟩ := rq_dct h
    exact .base (.dK h1)
  | scr xs =>
    obtain ⟨a, rfl, l, h1⟩ := rq_scr h
    rcases h1 with ⟨o, h1⟩ | ⟨o, its, n, h1, h2, _⟩
    · exact .base (.frz h1)
    · exact .kList h1 h2
  | exn _ _ => exact absurd rfl hx
section
variable {X : Cx} {W : WX} {e : Expr} {p p2 pos : Pos}
def eIsT (T : TyN) (m : RM) : EM := fun ρ => (m ρ).bind fun x ρ1 => (ofO (x.get ρ1) ρ1).bind fun d _ => ofO (isT T d) ρ1
theorem de_isT (T : TyN) {y : Str} {m : RM} (he : DR X W e m) (hg : Gl X "isinstance") (hm : X.mg "isinstance" = none) (hg2 : Gl X y) (hm2 : X.mg y = none) (hv : bootBuiltins y = some (.type T.nm)) (hn : y ≠ "__name__" := by decide) (hd : (y == ("__debug__" : Str)) = false := by decide)
    (h1 : starEach [e, .Name y p2] X.env = (false, eval e X.env) :: starEach [.Name y p2] X.env := by rfl) (h2 : starEach [.Name y p2] X.env = (false, eval (.Name y p2) X.env) :: starEach [] X.env := by rfl) (hpl : (backTo pos (starEach [.Name y p2] X.env)).any (·.1) = false := by rfl) :
    DE X W (.Call (.Name "isinstance" p) [e, .Name y p2] [] pos) (eIsT T m) := by
  obtain ⟨t, pt, s⟩ := he
  refine ⟨_, pe_callB call_isi hg hm PyProof.Rows.boot_isinstance (pa_cons pt (pa_cons (pe_bltn (v := .ty T.nm) hg2 hm2 hv rfl hn hd) pa_nil h2) h1) (by decide) (by decide) h1 hpl, fun B M H ρ σ Q rp k => s B M H ρ σ _ rp (Post.seq k fun x ρ1 M1 H1 v x1 r1 q1 k1 => ?_)⟩
  cases ex : x.get ρ1 with
  | none => rw [ex] at k1; exact k1.elim
  | some d =>
    rw [ex] at k1
    cases ez : isT T d with
    | none => simp only [ofO, Res.bind, ez] at k1; exact k1.elim
    | some z =>
      simp only [ofO, Res.bind, ez] at k1
      obtain ⟨b, rfl, hb⟩ := kit_typ ez
      refine ⟨v, .ty T.nm, .type (typ d), .type T.nm, b, rfl, .ty _, tyX_of (q1.rq Ext.refl r1 ex) (fun z => ?_), kit_ty hb, k1 M1 H1 _ Ext.refl r1 (.bl _)⟩
      cases d <;> first | (exact absurd z (by dsimp only [typ]; decide +kernel)) | cases ez

/-! ### range(..) as an argument -/
def DRg (X : Cx) (W : WX) (e : Expr) (m : Env → Res (Int × Int)) : Prop := ∃ t, PRg X e t ∧
  ∀ (B : Base) (M : Addr → Prop) (H : Hp) (ρ : Env) (σ : St) (Q : Int → Int → Hp → Prop), Rep X.K B M H ρ σ → Post X B W (fun _ _ _ (a b : Int × Int) => a = b) M H σ (m ρ) (fun ab H' => Q ab.1 ab.2 H') → t σ H Q
def gRg1 (m : EM) : Env → Res (Int × Int) := fun ρ => (m ρ).bind fun d ρ1 => match d with
  | .int i => .ok (0, i) ρ1
  | _ => .bad
def gRg2 (m1 m2 : EM) : Env → Res (Int × Int) := fun ρ => (m1 ρ).bind fun d ρ1 => (m2 ρ1).bind fun e ρ2 => match d, e with
  | .int i, .int j => .ok (i, j) ρ2
  | _, _ => .bad
theorem drg1 {a : Expr} {m : EM} (hg : Gl X "range") (hm : X.mg "range" = none) (h : DE X W a m) (hs : starEach [a] X.env = (false, eval a X.env) :: starEach [] X.env := by rfl) : DRg X W (.Call (.Name "range" p) [a] [] pos) (gRg1 m) := by
  obtain ⟨t, pt, s⟩ := h
  refine ⟨_, prg_1 hg hm pt hs, fun B M H ρ σ Q rp k => s B M H ρ σ _ rp (Post.seq k fun d ρ1 M1 H1 v x1 r1 q1 k1 => ?_)⟩
  cases d with
  | int i => cases q1; exact ⟨i, rfl, k1 M1 H1 (0, i) Ext.refl r1 rfl⟩
  | _ => exact k1.elim
theorem drg2 {a b : Expr} {m1 m2 : EM} (hg : Gl X "range") (hm : X.mg "range" = none) (h : DE X W a m1) (h2 : DE X W b m2) (na : starEach [a, b] X.env = (false, eval a X.env) :: starEach [b] X.env := by rfl)
    (nb : starEach [b] X.env = (false, eval b X.env) :: starEach [] X.env := by rfl) (hp : (backTo pos (starEach [b] X.env)).any (·.1) = false := by rfl) : DRg X W (.Call (.Name "range" p) [a, b] [] pos) (gRg2 m1 m2) := by
  obtain ⟨t, pt, s⟩ := h
  obtain ⟨t2, pt2, s2⟩ := h2
  refine ⟨_, prg_2 hg hm pt pt2 na nb hp, fun B M H ρ σ Q rp k => s B M H ρ σ _ rp (Post.seq k fun d ρ1 M1 H1 v x1 r1 q1 k1 => ?_)⟩
  refine s2 B M1 H1 ρ1 σ _ r1 (Post.seq k1 fun e ρ2 M2 H2 v2 x2 r2 q2 k2 => ?_)
  cases d with
  | int i =>
    cases e with
    | int j => cases q1; cases q2; exact ⟨i, j, rfl, rfl, k2 M2 H2 (i, j) Ext.refl r2 rfl⟩
    | _ => exact k2.elim
  | _ => exact k2.elim
instance {a b : Int} : Decidable (RgOk a b) := by unfold RgOk; infer_instance
theorem rng_rpl {K : PySem.W.Frag} {M : Addr → Prop} {H : Hp} {a b : Int} : RpL K M H (rngD a (b - a).toNat) (rgV a b) := by
  unfold rngD rgV
  generalize List.range (b - a).toNat = l
  induction l with
  | nil => exact .nil
  | cons x l ih => exact .cons (.int _) ih
def eTupRg (m : Env → Res (Int × Int)) : EM := fun ρ => (m ρ).bind fun ab ρ1 => if RgOk ab.1 ab.2 then .ok (.tup (rngD ab.1 (ab.2 - ab.1).toNat)) ρ1 else .bad
def eLstRg (m : Env → Res (Int × Int)) : EM := fun ρ => (m ρ).bind fun ab ρ1 => if RgOk ab.1 ab.2 then .ok (.lst (rngD ab.1 (ab.2 - ab.1).toNat)) ρ1 else .bad
theorem de_tupRg {m : Env → Res (Int × Int)} (c : Cd X) (hg : Gl X "tuple") (hm : X.mg "tuple" = none) (he : DRg X W e m) (na : starEach [e] X.env = (false, eval e X.env) :: starEach [] X.env := by rfl) : DE X W (.Call (.Name "tuple" p) [e] [] pos) (eTupRg m) := by
  obtain ⟨t, pt, s⟩ := he
  refine ⟨_, pe_tupRg c.calm hg hm pt na, fun B M H ρ σ Q rp k => s B M H ρ σ _ rp (Post.seq k fun ab ρ1 M1 H1 v x1 r1 q1 k1 => ?_)⟩
  subst q1
  split at k1
  · rename_i hc
    refine ⟨hc, fun q hq => post_t k1 r1 rng_rpl ?_ hq⟩
    unfold rngD
    rw [List.length_map, List.length_range, sizeLine_eq]
    exact hc.2.2.2.2
  · exact k1.elim
theorem df_lstRg {m : Env → Res (Int × Int)} (c : Cd X) (hg : Gl X "list") (hm : X.mg "list" = none) (he : DRg X W e m) (na : starEach [e] X.env = (false, eval e X.env) :: starEach [] X.env := by rfl) : DF X W (.Call (.Name "list" p) [e] [] pos) (eLstRg m) := by
  obtain ⟨t, pt, s⟩ := he
  refine ⟨_, pe_listRg c.calm hg hm pt na, fun B M H ρ σ Q rp k => s B M H ρ σ _ rp (Post.seq k fun ab ρ1 M1 H1 v x1 r1 q1 k1 => ?_)⟩
  subst q1
  split at k1
  · rename_i hc
    refine ⟨hc, fun q hq => post_o k1 r1 rng_rpl ?_ hq⟩
    unfold rngD
    rw [List.length_map, List.length_range, sizeLine_eq]
    exact hc.2.2.2.2
  · exact k1.elim
end
end NV

set_option Elab.async false
set_option linter.all false
set_option maxRecDepth 100000
set_option maxHeartbeats 4000000
/-! Core11: the forms that a printed derivation uses. -/
namespace NV
open PySem PySem.Spec PyProof.Rows L2

/-! ### order, wide -/
def lt2 (d e : D) : Option D := match d, e with
  | .int i, .int j => some (.bl (decide (i < j)))
  | d, e => ordO PySem.W.dataLt d e
def gt2 (d e : D) : Option D := match d, e with
  | .int i, .int j => some (.bl (decide (j < i)))
  | d, e => ordO (fun d e => PySem.W.dataLt e d) d e
def le2 (d e : D) : Option D := match d, e with
  | .int i, .int j => some (.bl (decide (i ≤ j)))
  | d, e => ordO (fun d e => !PySem.W.dataLt e d) d e
def ge2 (d e : D) : Option D := match d, e with
  | .int i, .int j => some (.bl (decide (j ≤ i)))
  | d, e => ordO (fun d e => !PySem.W.dataLt d e) d e
section
variable {X : Cx} {W : WX}
def rLt2 (K : PySem.W.Frag) : R2 := fun x y H Q => rI0 (fun i j => .bl (decide (i < j))) x y H Q ∨ rOrd K PySem.W.dataLt x y H Q
def rGt2 (K : PySem.W.Frag) : R2 := fun x y H Q => rI0 (fun i j => .bl (decide (j < i))) x y H Q ∨ rOrd K (fun d e => PySem.W.dataLt e d) x y H Q
def rLe2 (K : PySem.W.Frag) : R2 := fun x y H Q => rI0 (fun i j => .bl (decide (i ≤ j))) x y H Q ∨ rOrd K (fun d e => !PySem.W.dataLt e d) x y H Q
def rGe2 (K : PySem.W.Frag) : R2 := fun x y H Q => rI0 (fun i j => .bl (decide (j ≤ i))) x y H Q ∨ rOrd K (fun d e => !PySem.W.dataLt d e) x y H Q
theorem op_lt2 (c : Cd X) : OpR X (compareOp .Lt) (rLt2 X.K) := op_lt.or (op_ltD c)
theorem op_gt2 (c : Cd X) : OpR X (compareOp .Gt) (rGt2 X.K) := op_gt.or (op_gtD c)
theorem op_le2 (c : Cd X) : OpR X (compareOp .LtE) (rLe2 X.K) := op_le.or (op_leD c)
theorem op_ge2 (c : Cd X) : OpR X (compareOp .GtE) (rGe2 X.K) := op_ge.or (op_geD c)
theorem o_lt2 : OpE X lt2 (rLt2 X.K) := by
  intro B W M H ρ σ d e z x y Q rp hx hy hf h
  unfold lt2 at hf
  split at hf
  · exact .inl (o_lt B W M H ρ σ _ _ z x y Q rp hx hy hf h)
  · exact .inr (o_ord B W M H ρ σ _ _ z x y Q rp hx hy hf h)
theorem o_gt2 : OpE X gt2 (rGt2 X.K) := by
  intro B W M H ρ σ d e z x y Q rp hx hy hf h
  unfold gt2 at hf
  split at hf
  · exact .inl (o_gt B W M H ρ σ _ _ z x y Q rp hx hy hf h)
  · exact .inr (o_ord B W M H ρ σ _ _ z x y Q rp hx hy hf h)
theorem o_le2 : OpE X le2 (rLe2 X.K) := by
  intro B W M H ρ σ d e z x y Q rp hx hy hf h
  unfold le2 at hf
  split at hf
  · exact .inl (o_le B W M H ρ σ _ _ z x y Q rp hx hy hf h)
  · exact .inr (o_ord B W M H ρ σ _ _ z x y Q rp hx hy hf h)
theorem o_ge2 : OpE X ge2 (rGe2 X.K) := by
  intro B W M H ρ σ d e z x y Q rp hx hy hf h
  unfold ge2 at hf
  split at hf
  · exact .inl (o_ge B W M H ρ σ _ _ z x y Q rp hx hy hf h)
  · exact .inr (o_ord B W M H ρ σ _ _ z x y Q rp hx hy hf h)

/-! ### a ghost step that may find nothing to do -/
def sFz (i : Nat) (m : SM) : SM := fun ρ => match ρ[i]? with
  | some (.o d) => m (ρ.set i (.v d))
  | _ => m ρ
theorem ds_fz {st : Stmt} (i : Nat) {m : SM} (h : DS X W st m) : DS X W st (sFz i m) := by
  obtain ⟨t, p, s⟩ := h
  refine ⟨t, p, fun B M H ρ σ E r h => ?_⟩
  unfold sFz at h
  split at h
  · rename_i d hd
    obtain ⟨M', sub, r'⟩ := r.frz hd
    exact s B M' H _ σ E r' (PostS.shift (Ext.sub sub) h)
  · exact s B M H _ σ E r h

/-! ### x = [.. for ..] -/
section
variable {elt tg iter : Expr} {ifs : List Expr} {scope : Scope} {own : List (Str × Nat)} {pos spos py : Pos} {mi : Env → Res (List D)} {g : D → Env → Option Env} {mt : TM} {me : EM} {vs : List Nat} {i : Nat} {y : Str}
theorem ds_setLcO (c : Cd X) (hN : X.N.Nodup) (hy : X.N[i]? = some y) (hyl : X.env.scope.names.lookup y = some .local) (hsw : swapsWith (.ListComp elt [⟨tg, iter, ifs, 0⟩] scope pos) (some (.Name y py)) spos.line X.env = pure true) (hi : DI X W tg iter mi) (ok : BlkOk X.N X.env.scope scope own)
    (hg : ∀ (s : Shared) (H : Hp) (C : Addr) (cl : List (Str × Addr)) (fp : List Addr), DG (X.blk s H scope (compEnvC scope cl C X.env) fp) tg g vs)
    (ht : ∀ (s : Shared) (H : Hp) (C : Addr) (cl : List (Str × Addr)) (fp : List Addr), DTs (X.blk s H scope (compEnvC scope cl C X.env) fp) (fun _ _ _ _ => False) ifs mt)
    (he : ∀ (s : Shared) (H : Hp) (C : Addr) (cl : List (Str × Addr)) (fp : List Addr), DE (X.blk s H scope (compEnvC scope cl C X.env) fp) (fun _ _ _ _ => False) elt me) (ev : own.map (·.2) = vs := by rfl) (hs : ∀ x, foldedSetIterable iter X.env x = pure x := by intro _; rfl) :
    DS X W (.Assign [.Name y py] (.ListComp elt [⟨tg, iter, ifs, 0⟩] scope pos) spos) (sSetO i (eComp mi g mt me vs)) := by
  obtain ⟨wi, pi, si⟩ := hi
  subst ev
  have s := comp_sat (X := X) (W := W) (wi := wi) (mi := mi) (g := g) (mt := mt) (me := me) (vs := own.map (·.2)) si
  refine ⟨_, ps_setLc (tt := ttCan X (fun _ _ _ _ => False) mt) c.calm hN hy hyl hsw pi ok (fun s H C cl fp => can_g (hg s H C cl fp)) (fun s H C cl fp => ht s H C cl fp) (fun s H C cl fp => can_e (he s H C cl fp)) hs, fun B M H ρ σ E r h => s B M H ρ σ _ r (PostS.out (R := RelF X.K B σ) h fun d ρ1 M1 H1 v x1 r1 q1 k1 => ?_)⟩
  obtain ⟨a, rfl, w, hb, an, np⟩ := q1
  exact k1 M1 H1 _ Ext.refl (r1.setO i w hb an np)
theorem ds_setLc (c : Cd X) (hN : X.N.Nodup) (hy : X.N[i]? = some y) (hyl : X.env.scope.names.lookup y = some .local) (hsw : swapsWith (.ListComp elt [⟨tg, iter, ifs, 0⟩] scope pos) (some (.Name y py)) spos.line X.env = pure true) (hi : DI X W tg iter mi) (ok : BlkOk X.N X.env.scope scope own)
    (hg : ∀ (s : Shared) (H : Hp) (C : Addr) (cl : List (Str × Addr)) (fp : List Addr), DG (X.blk s H scope (compEnvC scope cl C X.env) fp) tg g vs)
    (ht : ∀ (s : Shared) (H : Hp) (C : Addr) (cl : List (Str × Addr)) (fp : List Addr), DTs (X.blk s H scope (compEnvC scope cl C X.env) fp) (fun _ _ _ _ => False) ifs mt)
    (he : ∀ (s : Shared) (H : Hp) (C : Addr) (cl : List (Str × Addr)) (fp : List Addr), DE (X.blk s H scope (compEnvC scope cl C X.env) fp) (fun _ _ _ _ => False) elt me) (ev : own.map (·.2) = vs := by rfl) (hs : ∀ x, foldedSetIterable iter X.env x = pure x := by intro _; rfl) :
    DS X W (.Assign [.Name y py] (.ListComp elt [⟨tg, iter, ifs, 0⟩] scope pos) spos) (sSet i (eComp mi g mt me vs)) := by
  obtain ⟨wi, pi, si⟩ := hi
  subst ev
  have s := comp_sat (X := X) (W := W) (wi := wi) (mi := mi) (g := g) (mt := mt) (me := me) (vs := own.map (·.2)) si
  refine ⟨_, ps_setLc (tt := ttCan X (fun _ _ _ _ => False) mt) c.calm hN hy hyl hsw pi ok (fun s H C cl fp => can_g (hg s H C cl fp)) (fun s H C cl fp => ht s H C cl fp) (fun s H C cl fp => can_e (he s H C cl fp)) hs, fun B M H ρ σ E r h => s B M H ρ σ _ r (PostS.out (R := RelF X.K B σ) h fun d ρ1 M1 H1 v x1 r1 q1 k1 => ?_)⟩
  obtain ⟨a, rfl, w, hb, an, np⟩ := q1
  exact k1 _ H1 _ (Ext.sub fun _ z => z.1) ((r1.drop hb an np).setV i w.rp)
end
end

/-! ### defs that are at hand -/
def Has (P : Program) (w : World) (K : PySem.W.Frag) (mg : Str → Option Value) (base : Heap) (k : Nat) (x : Str) (fl : List Bool) (F : List D → FRes) : Prop :=
  ∃ (f : Addr) (fd : FuncData) (ps : List Str), FnOk P w K mg base (L2.CX P w) k f fd ps (spF K mg fl F) ∧ mg x = some (.ref f) ∧ PySem.W.keepIn K (.ref f) = true ∧ Binds K fd ps []
section
variable {X : Cx} {W : WX} {k n : Nat} {x : Str} {p pos : Pos} {e : Expr} {es : List Expr} {fl : List Bool} {F : List D → FRes} {ma : AM}
theorem de_callH (h : Has X.prog X.w X.K X.mg X.base k x fl F) (hr : Room n X.A) (hg : Gl X x) (tk : Takes X W) (ha : DA X W (e :: es) ma) (hk : k ≤ n := by decide)
    (hdb : (x == ("__debug__" : Str)) = false := by decide) (he : starEach (e :: es) X.env = (false, eval e X.env) :: starEach es X.env := by rfl) (hpl : (backTo pos (starEach es X.env)).any (·.1) = false := by rfl) : DE X W (.Call (.Name x p) (e :: es) [] pos) (eCall fl false F ma) := by
  obtain ⟨f, fd, ps, h1, h2, h3, h4⟩ := h
  exact de_call (h1.mono hk) hr hg h2 h3 h4 tk ha hdb he hpl
theorem df_callH (h : Has X.prog X.w X.K X.mg X.base k x fl F) (hr : Room n X.A) (hg : Gl X x) (tk : Takes X W) (ha : DA X W (e :: es) ma) (hk : k ≤ n := by decide)
    (hdb : (x == ("__debug__" : Str)) = false := by decide) (he : starEach (e :: es) X.env = (false, eval e X.env) :: starEach es X.env := by rfl) (hpl : (backTo pos (starEach es X.env)).any (·.1) = false := by rfl) : DF X W (.Call (.Name x p) (e :: es) [] pos) (eCall fl true F ma) := by
  obtain ⟨f, fd, ps, h1, h2, h3, h4⟩ := h
  exact df_call (h1.mono hk) hr hg h2 h3 h4 tk ha hdb he hpl
end
abbrev FnP (K : PySem.W.Frag) (x : Str) (st : Stmt) (f : Addr) (fd : FuncData) : Prop := FunD K x x (defArgs st) (defBody st) (defScope st) [] [] f fd
theorem cd_of {X : Cx} {k : Nat} (hr : Room k X.A) (hc : X.calm = true := by rfl) : Cd X := ⟨hc, hr.units⟩
theorem fn_defD {P : Program} {w : World} {K : PySem.W.Frag} {mg : Str → Option Value} {base : Heap} {x : Str} {st : Stmt} {f : Addr} {fd : FuncData} {N ps : List Str} {k : Nat} {fl : List Bool} {m : SM} (F : FnP K x st f fd) (S : FnScope N ps (defScope st)) (hf : fl.length = ps.length)
    (der : ∀ (cdv : Value) (A : Around) (outer : List PySem.Env) (s : Shared) (H : Hp) (E : XK), Room k (A.deeper (envOfC x (defScope st) s.heap.objs.size f cdv)) →
      DSs (cxOf (L2.CX P w) P w K mg base N x (defScope st) f cdv A outer s H E) (fun c dx _ H' => E c dx H') (defBody st) m) : FnOk P w K mg base (L2.CX P w) (k + 1) f fd ps (spF K mg fl (runF fl N.length m)) := by
  obtain ⟨oc, od, dV, kV, doc, pm, an, cdv, ct, osl, e, lk, hcd, hD, _⟩ := F.ex
  rcases hD with ⟨_, rfl⟩ | ⟨e2, _⟩
  · exact fn_def (F := ⟨⟨oc, od, kV, doc, pm, an, cdv, ct, osl, e, lk, hcd⟩, F.kp⟩) S hf der
  · exact absurd rfl e2
theorem has_of {P : Program} {w : World} {K : PySem.W.Frag} {mg : Str → Option Value} {base : Heap} {x : Str} {st : Stmt} {f : Addr} {fd : FuncData} {ps : List Str} {k : Nat} {fl : List Bool} {F : List D → FRes} (D : FnP K x st f fd) (h : FnOk P w K mg base (L2.CX P w) k f fd ps (spF K mg fl F)) (g : mg x = some (.ref f))
    (hb : ∀ (kV doc pm : Value) (an : Option Addr) (cdv ct : Value) (us : List Value), us.length = ps.length → bindArgs (PySem.W.fnOf x x (defArgs st) (defBody st) (defScope st) .none kV doc pm an cdv ct) ⟨us, []⟩ = pure (ps.zip us)) : Has P w K mg base k x fl F :=
  ⟨f, fd, ps, h, g, D.kp, D.bindsN hb⟩
end NV

set_option Elab.async false
set_option linter.all false
set_option maxRecDepth 100000
set_option maxHeartbeats 4000000
/-! Core12: a law's end. -/
namespace NV
open PySem PySem.Spec PyProof.Rows L2
theorem sqS_of {K : PySem.W.Frag} {H : Hp} {a : Addr} {ns : List Int} (hO : L2.Only H) (h : SqL K H a (ns.map V.int)) : SqS K H a ns := by
  rcases h with (h | ⟨o, h⟩) | h
  · rcases hO a with z | ⟨o, xs, z⟩
    · rw [z] at h; cases h
    · rw [z] at h; cases h
  · exact .inl ⟨o, h⟩
  · exact .inr h
theorem law_end {K : PySem.W.Frag} {mg : Str → Option Value} {H : Hp} {a : Addr} {ns : List Int} {F : List D → FRes} (hO : L2.Only H) (hS : SqL K H a (ns.map V.int)) (hl : ns.length ≤ sizeLine) (hF : F [.scr ns] = .ok (.bl true) []) :
    spF K mg [false] F [.ref a] H (fun v _ => v = .bl true) fun _ _ _ => False := by
  refine ⟨fun _ => False, [.scr ns], [], fun b h => h.elim, List.nodup_nil, ⟨.scr hl (sqS_of hO hS), trivial⟩, ?_⟩
  rw [hF]
  intro H' v _ _ r
  cases r
  rfl
theorem walk_own {l : PySem.W.OpenLaw} {n k : Nat} {q : Program} {loose : List Str} {XP : (Str → Option Value) → Heap → Prop} {YP : World → Heap → Prop} {d : DefRec} {x : Str}
    (hn : l.most = some n) (hn2 : n ≤ sizeLine) (hdf : d.params.defaults = []) (hr : Room k callerA)
    (F : ∀ (w : World) (mg : Str → Option Value) (fa : Addr) (h : Heap), YP w h → h.Ns mainGlobals mg → mg d.name = some (.ref fa) →
      ∃ (K : PySem.W.Frag) (fd : FuncData) (F : List D → FRes), K.In h ∧ (∀ (s : Shared) (u : Value), BindsTo s fd ⟨[u], []⟩ [(x, u)]) ∧
        (∀ ns : List Int, ns.length ≤ n → (∀ z ∈ ns, Builtin.Int.intBits z ≤ 1048576) → F [.scr ns] = .ok (.bl true) []) ∧
        ∀ base : Heap, K.In base → base.Ns mainGlobals mg → FnOk l.prog w K mg base (L2.CX l.prog w) k fa fd [x] (spF K mg [false] F)) :
    PySem.W.WalkO q loose XP YP l.row.toRowW d [] (fun f vs => PySem.call f vs) := by
  refine Att.attach_callB hn hdf fun w s₀ s₁ mg mb fa o pm cd doc a vs ns G Y ho hd hcd hmg hobj hints hlen hbits hg => ?_
  obtain ⟨K, fd, F, KX, hb, hP, hF⟩ := F w mg fa _ Y G.T.g hmg
  exact law_call KX G.T.g G.T.b G.T.builtins G.T.nolimit hg hobj hints (Nat.le_trans hlen hn2) hr hF hb (fun H hO hS => law_end hO hS (Nat.le_trans hlen hn2) (hP ns hlen hbits)) fun H e s' z => by
    obtain ⟨_, _, _, _, _, _, _, _, _, _, _, _, z⟩ := z
    exact z
end NV

set_option Elab.async false
set_option linter.all false
set_option maxRecDepth 100000
set_option maxHeartbeats 4000000
/-! CoreS: set(..) of texts. -/
namespace NVS
open PySem PySem.Spec PyProof.Rows
abbrev strKind := @PySem.strKind
def stepS (acc : List Str) (x : Str) : List Str := if x ∈ acc then acc else acc ++ [x]
/-- without the repeated ones -/
def dd (xs : List Str) : List Str := xs.foldl stepS []
theorem dd_snoc (xs : List Str) (x : Str) : dd (xs ++ [x]) = stepS (dd xs) x := by
  unfold dd
  rw [List.foldl_append]
  rfl
theorem stepS_mem (acc : List Str) (x y : Str) : y ∈ stepS acc x ↔ y ∈ acc ∨ y = x := by
  unfold stepS
  by_cases h : x ∈ acc
  · rw [if_pos h]
    exact ⟨.inl, fun z => z.elim id fun e => e ▸ h⟩
  · rw [if_neg h]
    simp
theorem stepS_len (acc : List Str) (x : Str) : (stepS acc x).length = if decide (x ∈ acc) then acc.length else acc.length + 1 := by
  unfold stepS
  by_cases h : x ∈ acc <;> simp [h]
theorem foldS_len : ∀ (xs acc : List Str), (xs.foldl stepS acc).length ≤ acc.length + xs.length
  | [], acc => Nat.le_refl _
  | x :: xs, acc => by
    have h := foldS_len xs (stepS acc x)
    have h2 := stepS_len acc x
    rw [List.foldl_cons, List.length_cons]
    split at h2 <;> omega
theorem dd_len (xs : List Str) : (dd xs).length ≤ xs.length := by
  have := foldS_len xs []
  simpa [dd] using this
def emptySet (led : Bool) : Obj := { cls := .type "set", dict := none, data := .set #[] 0 (.fresh 0 0 led) }
section
variable {pr : Program} {wo : World} {A : Around} {R : Result → Shared → Prop} {I : Addr} {fp wr : List Addr} {G : Array GenState → Array GenState → Prop} {n : Nat} {P : Nat → Value → Prop} {Sx : Nat → Shared → Prop}
theorem upd_strs (W : WalksS pr wo A.in1 I fp wr G n P Sx) (S : Addr) (notIn : S ∉ fp) (xs : List Str) (sz : xs.length = n) (vals : ∀ (i : Nat) (u : Value), P i u → ∃ x t, xs[i]? = some x ∧ u = .str x t) (few : n + 1 < scanBound) :
    ∀ (k i : Nat) (st : Shared), n - i = k → i ≤ n → Sx i st → st.heap.SetOf (strKind pr wo) S (fun y => decide (y ∈ dd (xs.take i))) (dd (xs.take i)).length →
      (∀ st', Moved (S :: wr) G st st' → st'.heap.SetOf (strKind pr wo) S (fun y => decide (y ∈ dd (xs.take n))) (dd (xs.take n)).length → R (.ok (.ret .none)) st') →
      codeAny (model pr wo) A (.builtin "set.update.loop" ⟨[.ref S, .ref I], []⟩) R st := by
  have notW : S ∉ wr := fun z => notIn (W.sub _ z)
  have inc : ∀ b ∈ wr, b ∈ S :: wr := fun b hb => List.mem_cons_of_mem _ hb
  intro k
  induction k with
  | zero =>
    intro i st hk hi hst hS hR
    obtain rfl : i = n := by omega
    refine codeAny_builtin F.entry_set_update_loop ?_
    rw [Around.under_plainId F.plain_set_update_loop _]
    show wpAny _ A.in1 (pyNext (.ref I) >>= _) _ _ st
    refine wpAny_bind (W.done st _ _ hst fun st' mv => ?_)
    show wpAny _ A.in1 (ret Value.none) _ _ st'
    obtain ⟨ob, es, ep, tb, ho, rest⟩ := hS
    exact wpAny_pure (hR st' (mv.mono inc) ⟨ob, es, ep, tb, mv.heap S _ notW ho, rest⟩)
  | succ k ih =>
    intro i st hk hi hst hS hR
    have lt : i < n := by omega
    refine codeAny_builtin F.entry_set_update_loop ?_
    rw [Around.under_plainId F.plain_set_update_loop _]
    show wpAny _ A.in1 (pyNext (.ref I) >>= _) _ _ st
    refine wpAny_bind (W.item i st _ _ lt hst fun u st' hP hst' mv => ?_)
    obtain ⟨x, t, hx, rfl⟩ := vals i u hP
    have hS' : st'.heap.SetOf (strKind pr wo) S (fun y => decide (y ∈ dd (xs.take i))) (dd (xs.take i)).length := by
      obtain ⟨ob, es, ep, tb, ho, rest⟩ := hS
      exact ⟨ob, es, ep, tb, mv.heap S _ notW ho, rest⟩
    show wpAny _ A.in1 (holding [Value.str x t] (setAdd S (.str x t)) >>= _) _ _ st'
    refine wpAny_bind (wpAny_holding ?_)
    unfold setAdd
    refine wpAny_holding ?_
    have isx : (strKind pr wo).is x (.str x t) = true := by show Value.isStrOf x (.str x t) = true; simp [Value.isStrOf]
    refine wpAny_bind ((strKind pr wo).pyHash (k := x) isx ?_)
    have room : (dd (xs.take i)).length + 1 < scanBound := by
      have := dd_len (xs.take i)
      rw [List.length_take] at this
      omega
    have et : xs.take (i + 1) = xs.take i ++ [x] := by rw [List.take_add_one, hx]; rfl
    refine wpAny_setAddHashed_of (knd := strKind pr wo) (s := { st' with toks := st'.toks + 1 }) isx rfl hS' room fun g sb hS2 => ?_
    have hSi : g.SetOf (strKind pr wo) S (fun y => decide (y ∈ dd (xs.take (i + 1)))) (dd (xs.take (i + 1))).length :=
      SetOf_congr hS2 (fun y => by
        rw [et, dd_snoc]
        by_cases h1 : y ∈ dd (xs.take i) <;> by_cases h2 : y = x <;> simp [stepS_mem, h1, h2]) (by rw [et, dd_snoc, stepS_len])
    refine wpAny_pure ⟨plainId_quiet F.plain_set_update_loop _, ih (i + 1) _ (by omega) lt (W.frame _ st' _ _ hst' (Nat.le_succ _) fun b hb ob e => ?_) hSi fun st3 mv3 hS3 => ?_⟩
    · rw [sb.2 b (fun z : b = S => notIn (by rw [← z]; exact hb))]; exact e
    · refine hR st3 (Moved.trans W.gtrans ((mv.mono inc).then_heap (Nat.le_succ _) fun b ob hb e => ?_) mv3) hS3
      rw [sb.2 b (fun z : b = S => hb (by rw [z]; exact List.mem_cons_self))]; exact e
end
section
variable {pr : Program} {wo : World} {A : Around} {X0 : Value → Shared → Prop} {st : Shared}
set_option maxHeartbeats 8000000

theorem set_of_list {src : Addr} {arr : Array Value} {xs : List Str} {R : Value → Shared → Prop} (calm : A.handled = none) (isSrc : st.heap.IsList src arr) (sz : arr.size = xs.length)
    (vals : ∀ (i : Nat) (u : Value), arr[i]? = some u → ∃ x t, xs[i]? = some x ∧ u = .str x t) (few : xs.length + 1 < scanBound)
    (done : ∀ (g : Heap) (k : Nat), g.SetOf (strKind pr wo) st.heap.objs.size (fun y => decide (y ∈ dd xs)) (dd xs).length →
      (∀ b ob, b < st.heap.objs.size → st.heap.get? b = some ob → g.get? b = some ob) → R (.ref st.heap.objs.size) { st with heap := g, toks := k }) :
    wpAny (model pr wo) A (call (.type "set") [.ref src]) R X0 st := by
  obtain ⟨m1, m2, m3⟩ := F.called_set.mro
  have m4 := F.called_set.made
  have m5 := F.called_set.sub
  refine wpAny_call (codeAny_of_tree ?_)
  show wpAny _ _ (callAny (.type "set") _) _ _ _
  refine wpAny_pure ⟨Code.quiet_builtin _ (by decide +kernel), codeAny_builtin F.entry_type_call ?_⟩
  rw [Around.under_plain (weight_type_call_type "set" [.ref src] []) rfl]
  have m6 := F.called_set.notType
  have m7 := F.called_set.canCreate
  have m8 := F.typeCall_set_1 (.ref src)
  repeat (any_goals (first | assumption | wp_step))
  refine codeAny_mono (code_set_new_1 (.ref src) (E := X0) (Q₁ := fun ob st1 => ∃ led : Bool, ob = .ref st.heap.objs.size ∧ st1 = { st with heap := st.heap.push (emptySet led) }) fun led => ⟨led, rfl, rfl⟩) fun z st1 hz => ?_
  cases z with
  | error e => exact hz
  | ok fl =>
    cases fl with
    | ret ob =>
      obtain ⟨led, rfl, rfl⟩ := hz
      have at1 : (st.heap.push (emptySet led)).get? st.heap.objs.size = some (emptySet led) := Heap.get?_push_size _ rfl
      have ty1 : Shared.TypeIs { st with heap := st.heap.push (emptySet led) } (.ref st.heap.objs.size) "set" := ⟨_, at1, rfl⟩
      have m9 := F.called_set.init.lookup
      have m10 := F.called_set.init.bind (.ref st.heap.objs.size)
      repeat (any_goals (first | assumption | wp_step))
      refine codeAny_mono (codeAny_call_builtin (R := wants (fun z st2 => z = .none ∧ ∃ g k, st2 = { st with heap := g, toks := k } ∧ g.SetOf (strKind pr wo) st.heap.objs.size (fun y => decide (y ∈ dd xs)) (dd xs).length ∧
          (∀ b ob, b < st.heap.objs.size → st.heap.get? b = some ob → g.get? b = some ob)) X0) F.called_set.init.plain F.entry_set_init (check_set_init_1 ty1 ?_)) fun z2 st2 hz2 => ?_
      · obtain ⟨os, hos, cs, ns, ds⟩ := isSrc
        obtain ⟨q1, q2, q3, q4⟩ := os
        simp only at cs ds
        subst cs; subst ds
        have at2 : (st.heap.push (emptySet led)).get? src = some { cls := .type "list", dict := q2, data := .seq arr ns, slots := q4 } := Heap.get?_push_of_some _ hos
        have m11 := F.sub_list_set
        have m12 := F.sub_list_frozenset
        have m13 : (Value.type "list" == Value.type "dict") = false := by decide
        have is2 : (st.heap.push (emptySet led)).IsList src arr := ⟨_, at2, rfl, ns, rfl⟩
        unfold Builtin.«set.__init__» noKeywords Builtin.Frozenset.updateFrom
        generalize hPI : pyIter = PI
        wp_walk
        subst hPI
        refine wpAny_pyIter_list is2 ?_
        refine wpAny_bind (wpAny_runValue ?_)
        have lt : src < st.heap.objs.size := Heap.lt_size hos
        have c3 : A.in1.in1.in1.handled = none := by simp [calm]
        have ne1 : src ≠ (st.heap.push (emptySet led)).objs.size := by
          rw [Heap.size_push]; exact Nat.ne_of_lt (Nat.lt_succ_of_lt lt)
        have ne2 : st.heap.objs.size ∉ [(st.heap.push (emptySet led)).objs.size, src] := by
          rw [Heap.size_push]; simp only [List.mem_cons, List.mem_singleton, List.not_mem_nil, or_false, not_or]
          exact ⟨Nat.ne_of_lt (Nat.lt_succ_self _), Nat.ne_of_gt lt⟩
        refine upd_strs (n := arr.size) ((Walks.list c3 _ src ne1 arr).toS) st.heap.objs.size ne2 xs sz.symm vals (by omega) (arr.size - 0) 0 _ (by omega) (Nat.zero_le _) ⟨⟨_, Heap.get?_push_size _ rfl, rfl, rfl⟩, (is2.push _)⟩ ?start ?stop
        case start =>
          have at3 : ((st.heap.push (emptySet led)).push { cls := .type "list_iterator", data := .fields #[.ref src, .int 0 0] }).get? st.heap.objs.size = some (emptySet led) := Heap.get?_push_of_some _ at1
          exact SetOf_congr ((setObjOf_fresh (knd := strKind pr wo) led).setOf at3 (by unfold scanBound; omega)) (fun _ => by simp [dd]) rfl
        case stop =>
          intro st3 mv hS
          obtain ⟨g, g2, d2, k2, o2⟩ := st3
          have e1 : g2 = st.gens := mv.gens
          have e2 : d2 = st.drawn := mv.drawn
          have e3 : o2 = st.os := mv.os
          subst e1; subst e2; subst e3
          show wpAny _ _ _ _ _ _
          refine wpAny_pure ?_
          show wpAny _ _ (ret Value.none) _ _ _
          rw [List.take_of_length_le (by omega)] at hS
          refine wpAny_pure ⟨rfl, g, k2, rfl, hS, fun b ob hb e => ?_⟩
          have n1 : b ≠ st.heap.objs.size := Nat.ne_of_lt hb
          have n2 : b ≠ (st.heap.push (emptySet led)).objs.size := by
            rw [Heap.size_push]; exact Nat.ne_of_lt (Nat.lt_succ_of_lt hb)
          exact mv.heap b ob (by simp only [List.mem_cons, List.mem_singleton, List.not_mem_nil, or_false, not_or]; exact ⟨n1, n2⟩) (Heap.get?_push_of_some _ (Heap.get?_push_of_some _ e))
      · cases z2 with
        | error e => exact hz2
        | ok fl2 =>
          cases fl2 with
          | ret z3 =>
            obtain ⟨rfl, g, k, rfl, hS, hk⟩ := hz2
            repeat (any_goals (first | assumption | wp_step))
            exact done _ _ hS hk
          | _ => exact hz2.elim
    | _ => exact hz.elim

theorem set_of_tuple {src : Addr} {arr : Array Value} {xs : List Str} {R : Value → Shared → Prop} (calm : A.handled = none) (isSrc : st.heap.IsTuple src arr) (sz : arr.size = xs.length)
    (vals : ∀ (i : Nat) (u : Value), arr[i]? = some u → ∃ x t, xs[i]? = some x ∧ u = .str x t) (few : xs.length + 1 < scanBound)
    (done : ∀ (g : Heap) (k : Nat), g.SetOf (strKind pr wo) st.heap.objs.size (fun y => decide (y ∈ dd xs)) (dd xs).length →
      (∀ b ob, b < st.heap.objs.size → st.heap.get? b = some ob → g.get? b = some ob) → R (.ref st.heap.objs.size) { st with heap := g, toks := k }) :
    wpAny (model pr wo) A (call (.type "set") [.ref src]) R X0 st := by
  obtain ⟨m1, m2, m3⟩ := F.called_set.mro
  have m4 := F.called_set.made
  have m5 := F.called_set.sub
  refine wpAny_call (codeAny_of_tree ?_)
  show wpAny _ _ (callAny (.type "set") _) _ _ _
  refine wpAny_pure ⟨Code.quiet_builtin _ (by decide +kernel), codeAny_builtin F.entry_type_call ?_⟩
  rw [Around.under_plain (weight_type_call_type "set" [.ref src] []) rfl]
  have m6 := F.called_set.notType
  have m7 := F.called_set.canCreate
  have m8 := F.typeCall_set_1 (.ref src)
  repeat (any_goals (first | assumption | wp_step))
  refine codeAny_mono (code_set_new_1 (.ref src) (E := X0) (Q₁ := fun ob st1 => ∃ led : Bool, ob = .ref st.heap.objs.size ∧ st1 = { st with heap := st.heap.push (emptySet led) }) fun led => ⟨led, rfl, rfl⟩) fun z st1 hz => ?_
  cases z with
  | error e => exact hz
  | ok fl =>
    cases fl with
    | ret ob =>
      obtain ⟨led, rfl, rfl⟩ := hz
      have at1 : (st.heap.push (emptySet led)).get? st.heap.objs.size = some (emptySet led) := Heap.get?_push_size _ rfl
      have ty1 : Shared.TypeIs { st with heap := st.heap.push (emptySet led) } (.ref st.heap.objs.size) "set" := ⟨_, at1, rfl⟩
      have m9 := F.called_set.init.lookup
      have m10 := F.called_set.init.bind (.ref st.heap.objs.size)
      repeat (any_goals (first | assumption | wp_step))
      refine codeAny_mono (codeAny_call_builtin (R := wants (fun z st2 => z = .none ∧ ∃ g k, st2 = { st with heap := g, toks := k } ∧ g.SetOf (strKind pr wo) st.heap.objs.size (fun y => decide (y ∈ dd xs)) (dd xs).length ∧
          (∀ b ob, b < st.heap.objs.size → st.heap.get? b = some ob → g.get? b = some ob)) X0) F.called_set.init.plain F.entry_set_init (check_set_init_1 ty1 ?_)) fun z2 st2 hz2 => ?_
      · obtain ⟨os, hos, cs, ns, ds⟩ := isSrc
        obtain ⟨q1, q2, q3, q4⟩ := os
        simp only at cs ds
        subst cs; subst ds
        have at2 : (st.heap.push (emptySet led)).get? src = some { cls := .type "tuple", dict := q2, data := .seq arr ns, slots := q4 } := Heap.get?_push_of_some _ hos
        have m11 := F.sub_tuple_set
        have m12 := F.sub_tuple_frozenset
        have m13 : (Value.type "tuple" == Value.type "dict") = false := by decide
        have is2 : (st.heap.push (emptySet led)).IsTuple src arr := ⟨_, at2, rfl, ns, rfl⟩
        unfold Builtin.«set.__init__» noKeywords Builtin.Frozenset.updateFrom
        generalize hPI : pyIter = PI
        wp_walk
        subst hPI
        refine wpAny_pyIter_tuple is2 ?_
        refine wpAny_bind (wpAny_runValue ?_)
        have lt : src < st.heap.objs.size := Heap.lt_size hos
        have c3 : A.in1.in1.in1.handled = none := by simp [calm]
        have ne1 : src ≠ (st.heap.push (emptySet led)).objs.size := by
          rw [Heap.size_push]; exact Nat.ne_of_lt (Nat.lt_succ_of_lt lt)
        have ne2 : st.heap.objs.size ∉ [(st.heap.push (emptySet led)).objs.size, src] := by
          rw [Heap.size_push]; simp only [List.mem_cons, List.mem_singleton, List.not_mem_nil, or_false, not_or]
          exact ⟨Nat.ne_of_lt (Nat.lt_succ_self _), Nat.ne_of_gt lt⟩
        refine upd_strs (n := arr.size) ((Walks.tuple c3 _ src ne1 arr).toS) st.heap.objs.size ne2 xs sz.symm vals (by omega) (arr.size - 0) 0 _ (by omega) (Nat.zero_le _) ⟨⟨_, Heap.get?_push_size _ rfl, rfl, rfl⟩, (is2.push _)⟩ ?start ?stop
        case start =>
          have at3 : ((st.heap.push (emptySet led)).push { cls := .type "tuple_iterator", data := .fields #[.ref src, .int 0 0] }).get? st.heap.objs.size = some (emptySet led) := Heap.get?_push_of_some _ at1
          exact SetOf_congr ((setObjOf_fresh (knd := strKind pr wo) led).setOf at3 (by unfold scanBound; omega)) (fun _ => by simp [dd]) rfl
        case stop =>
          intro st3 mv hS
          obtain ⟨g, g2, d2, k2, o2⟩ := st3
          have e1 : g2 = st.gens := mv.gens
          have e2 : d2 = st.drawn := mv.drawn
          have e3 : o2 = st.os := mv.os
          subst e1; subst e2; subst e3
          show wpAny _ _ _ _ _ _
          refine wpAny_pure ?_
          show wpAny _ _ (ret Value.none) _ _ _
          rw [List.take_of_length_le (by omega)] at hS
          refine wpAny_pure ⟨rfl, g, k2, rfl, hS, fun b ob hb e => ?_⟩
          have n1 : b ≠ st.heap.objs.size := Nat.ne_of_lt hb
          have n2 : b ≠ (st.heap.push (emptySet led)).objs.size := by
            rw [Heap.size_push]; exact Nat.ne_of_lt (Nat.lt_succ_of_lt hb)
          exact mv.heap b ob (by simp only [List.mem_cons, List.mem_singleton, List.not_mem_nil, or_false, not_or]; exact ⟨n1, n2⟩) (Heap.get?_push_of_some _ (Heap.get?_push_of_some _ e))
      · cases z2 with
        | error e => exact hz2
        | ok fl2 =>
          cases fl2 with
          | ret z3 =>
            obtain ⟨rfl, g, k, rfl, hS, hk⟩ := hz2
            repeat (any_goals (first | assumption | wp_step))
            exact done _ _ hS hk
          | _ => exact hz2.elim
    | _ => exact hz.elim

end
end NVS

set_option Elab.async false
set_option linter.all false
set_option maxRecDepth 100000
set_option maxHeartbeats 4000000
/-! Core13: dead paths, globals, - , len(set(..)), join, dict displays, calls without arguments, list methods. -/
namespace NV
open PySem PySem.Spec PyProof.Rows L2

/-! ### what is not reached -/
def mBad {α : Type} : Env → Res α := fun _ => .bad
def sBad : SM := fun _ => .bad
section
variable {X : Cx} {W : WX} {e a : Expr} {pos p p2 q apos cpos : Pos} {x : Str}
theorem de_dead : DE X W e mBad := ⟨fun _ _ _ => False, ⟨fun _ _ _ _ _ _ h => h.elim⟩, fun _ _ _ _ _ _ _ h => h⟩
theorem df_dead : DF X W e mBad := ⟨fun _ _ _ => False, ⟨fun _ _ _ _ _ _ h => h.elim⟩, fun _ _ _ _ _ _ _ h => h⟩
theorem dt_dead : DT X W e mBad := ⟨fun _ _ _ => False, ⟨fun _ _ _ _ _ _ h => h.elim⟩, fun _ _ _ _ _ _ _ h => h⟩
theorem ds_dead {st : Stmt} : DS X W st sBad := ⟨fun _ _ _ => False, ⟨fun _ _ _ _ _ _ h => h.elim⟩, fun _ _ _ _ _ _ _ h => h⟩
theorem dss_dead {sts : List Stmt} : DSs X W sts sBad := ⟨fun _ _ _ => False, ⟨fun _ _ _ _ _ _ h => h.elim⟩, fun _ _ _ _ _ _ _ h => h⟩

/-! ### globals -/
def Gv (K : PySem.W.Frag) (mg : Str → Option Value) (x : Str) (d : D) : Prop := ∃ (v : V) (u : Value), mg x = some u ∧ RelV v u ∧ ∀ (M : Addr → Prop) (H : Hp), Rp K M H d v
theorem de_glob {d : D} (h : Gv X.K X.mg x d) (hg : Gl X x) (hd : (x == ("__debug__" : Str)) = false := by decide) : DE X W (.Name x pos) (eC d) := by
  obtain ⟨v, u, h1, h2, h3⟩ := h
  exact de_c (pe_glob hg h1 h2 hd) h3
/-! ### - e -/
def eNeg (m : EM) : EM := fun ρ => (m ρ).bind fun d ρ1 => match d with
  | .int i => .ok (.int (-i)) ρ1
  | _ => .bad
theorem de_neg {m : EM} (h : DE X W e m) : DE X W (.UnaryOp .USub e pos) (eNeg m) := by
  obtain ⟨t, pt, s⟩ := h
  refine ⟨_, pe_un un_neg pt, fun B M H ρ σ Q rp k => s B M H ρ σ _ rp (Post.seq k fun d ρ1 M1 H1 v x1 r1 q1 k1 => ?_)⟩
  cases d with
  | int i => cases q1; exact ⟨i, rfl, k1 M1 H1 _ Ext.refl r1 (.int _)⟩
  | _ => exact k1.elim
/-! ### len(set(e)), texts -/
def strsOf : List D → Option (List Str)
  | [] => some []
  | .str x :: ds => (strsOf ds).map fun l => x :: l
  | _ => none
theorem strs_rpl {K : PySem.W.Frag} {M : Addr → Prop} {H : Hp} : ∀ {ds : List D} {xs : List Str} {vs : List V}, strsOf ds = some xs → RpL K M H ds vs → vs = xs.map V.str ∧ ds = xs.map D.str ∧ ∀ x ∈ xs, StrG x
  | [], xs, vs, e, h => by cases e; cases h; exact ⟨rfl, rfl, fun _ z => by cases z⟩
  | d :: ds, xs, vs, e, h => by
    cases d with
    | str i =>
      cases h with
      | cons a b =>
        cases e2 : strsOf ds with
        | none => simp only [strsOf, e2] at e; cases e
        | some l =>
          simp only [strsOf, e2] at e
          cases e
          obtain ⟨e3, e4, e5⟩ := strs_rpl e2 b
          cases a with
          | str g => exact ⟨by rw [e3]; rfl, by rw [e4]; rfl, fun y hy => (List.mem_cons.mp hy).elim (fun z => z ▸ g) (e5 y)⟩
    | _ => cases e
theorem rpl_strs {K : PySem.W.Frag} {M : Addr → Prop} {H : Hp} : ∀ {xs : List Str}, (∀ x ∈ xs, StrG x) → RpL K M H (xs.map D.str) (xs.map V.str)
  | [], _ => .nil
  | x :: xs, h => .cons (.str (h x List.mem_cons_self)) (rpl_strs fun y hy => h y (List.mem_cons_of_mem _ hy))
def seqStrs (d : D) : Option (List Str) := match d with
  | .tup ds => strsOf ds
  | .lst ds => strsOf ds
  | _ => none
theorem seq_strs {K : PySem.W.Frag} {M : Addr → Prop} {H : Hp} {d : D} {v : V} {xs : List Str} (h : Rq K M H d v) (e : seqStrs d = some xs) : ∃ p, v = .ref p ∧ (SqL K H p (xs.map V.str) ∨ SqT K H p (xs.map V.str)) ∧ ∀ x ∈ xs, StrG x := by
  cases d with
  | tup ds =>
    obtain ⟨a, vs, rfl, l, h1, h2⟩ := rq_tup h
    obtain ⟨e1, _, g⟩ := strs_rpl e h2
    subst e1
    exact ⟨a, rfl, .inr h1, g⟩
  | lst ds =>
    obtain ⟨a, vs, rfl, l, h1, h2⟩ := rq_lst h
    obtain ⟨e1, _, g⟩ := strs_rpl e h2
    subst e1
    exact ⟨a, rfl, .inl (SqL.of h1), g⟩
  | _ => cases e
theorem vals_str_at : ∀ {xs : List Str} {us : List Value}, Vals (xs.map V.str) us → ∀ (i : Nat) (u : Value), us[i]? = some u → ∃ x t, xs[i]? = some x ∧ u = .str x t
  | [], _, h, i, u, e => by cases h; simp at e
  | x :: xs, _, h, 0, u, e => by
    cases h with
    | cons a b =>
      obtain ⟨t, rfl⟩ := a
      simp at e
      exact ⟨x, t, rfl, e.symm⟩
  | x :: xs, _, h, i + 1, u, e => by
    cases h with
    | cons a b => exact vals_str_at b i u (by simpa using e)
def tLenSet2 (K : PySem.W.Frag) (ta : TE) : TE := fun σ H Q => ta σ H fun x H1 => ∃ (l : Addr) (xs : List Str), x = .ref l ∧ (SqL K H1 l (xs.map V.str) ∨ SqT K H1 l (xs.map V.str)) ∧ xs.length < 4000 ∧ Q (.int (NVS.dd xs).length) H1
theorem pe_lenSet2 {ta : TE} (hc : X.calm = true) (hg : Gl X "len") (hm : X.mg "len" = none) (hg2 : Gl X "set") (hm2 : X.mg "set" = none) (ha : PE X a ta)
    (na : starEach [a] X.env = (false, eval a X.env) :: starEach [] X.env := by rfl) : PE X (.Call (.Name "len" p) [.Call (.Name "set" p2) [a] [] q] [] pos) (tLenSet2 X.K ta) := by
  refine ⟨fun pins s σ H Q I h => ?_⟩
  refine Call_ (ld_blt I hg hm PySem.boot_len (PyProof.Rows.callWith_builtin1 (PyProof.Rows.args_cons ?_ rfl) rfl rfl))
  refine Call_ (ld_blt I hg2 hm2 PyProof.Rows.boot_set (PyProof.Rows.callWith_type1 (PyProof.Rows.args_cons (thn (ha.run pins s σ H _ I h) fun v s1 ⟨x, H1, I1, r1, q1⟩ => PyProof.Rows.args_nil ?_) na) na rfl))
  obtain ⟨l, xs, rfl, hq, few, q1⟩ := q1
  cases r1
  have fin : ∀ (g : Heap) (k : Nat), g.SetOf (PySem.strKind X.prog X.w) s1.heap.objs.size (fun y => decide (y ∈ NVS.dd xs)) (NVS.dd xs).length → (∀ b ob, b < s1.heap.objs.size → s1.heap.get? b = some ob → g.get? b = some ob) →
      wpAny (model X.prog X.w) X.A (call (.builtin "len") [.ref s1.heap.objs.size]) (EP X pins σ Q) X.xe { s1 with heap := g, toks := k } := fun g k hS hk => by
    obtain ⟨o, es, ep, t, ho, hex, hd, _, _, _, hf, hn⟩ := hS
    have I2 : Inv X pins σ H1 { s1 with heap := g, toks := k } := I1.kept fun b o e => hk b o (Heap.lt_size e) e
    have le := NVS.dd_len xs
    exact call_len_set ho hex hd hf (by rw [hn]; omega) ⟨.int (NVS.dd xs).length, H1, I2.tok _, ⟨_, by rw [hn]⟩, q1⟩
  rcases hq with hq | hq
  · obtain ⟨its, r, pl, hz⟩ := I1.list hq
    have hl : its.toArray.size = xs.length := by rw [List.size_toArray, ← r.length, List.length_map]
    exact NVS.set_of_list (I1.ok.hd hc) pl.isList hl (fun i u e => vals_str_at r i u (by simpa using e)) (by unfold scanBound; omega) fun g k hS hk => PyProof.Rows.args_nil (fin g k hS hk)
  · obtain ⟨its, r, pl, hz⟩ := I1.tuple hq
    have hl : its.toArray.size = xs.length := by rw [List.size_toArray, ← r.length, List.length_map]
    exact NVS.set_of_tuple (I1.ok.hd hc) pl hl (fun i u e => vals_str_at r i u (by simpa using e)) (by unfold scanBound; omega) fun g k hS hk => PyProof.Rows.args_nil (fin g k hS hk)
def lenSetD (d : D) : Option D := (seqStrs d).bind fun xs => if xs.length < 4000 then some (.int (NVS.dd xs).length) else none
def eLenSet (m : EM) : EM := fun ρ => (m ρ).bind fun d ρ1 => ofO (lenSetD d) ρ1
theorem de_lenSet {m : EM} (c : Cd X) (hg : Gl X "len") (hm : X.mg "len" = none) (hg2 : Gl X "set") (hm2 : X.mg "set" = none) (h : DE X W a m) (na : starEach [a] X.env = (false, eval a X.env) :: starEach [] X.env := by rfl) : DE X W (.Call (.Name "len" p) [.Call (.Name "set" p2) [a] [] q] [] pos) (eLenSet m) := by
  obtain ⟨t, pt, s⟩ := h
  refine ⟨_, pe_lenSet2 c.calm hg hm hg2 hm2 pt na, fun B M H ρ σ Q rp k => s B M H ρ σ _ rp (Post.seq k fun d ρ1 M1 H1 v x1 r1 q1 k1 => ?_)⟩
  cases e : seqStrs d with
  | none => simp only [lenSetD, e, Option.bind] at k1; exact k1.elim
  | some xs =>
    simp only [lenSetD, e, Option.bind] at k1
    split at k1
    · rename_i hl
      obtain ⟨l, rfl, h1, _⟩ := seq_strs q1.rq e
      exact ⟨l, xs, rfl, h1, hl, k1 M1 H1 _ Ext.refl r1 (.int _)⟩
    · exact k1.elim
/-! ### 'x'.join(e), x.upper() -/
def strGb (x : Str) : Bool := decide (x.length ≤ sizeLine) && PySem.PyData.strOk x
theorem strGb_ok {x : Str} (h : strGb x = true) : StrG x := by
  unfold strGb at h
  rw [Bool.and_eq_true] at h
  exact ⟨of_decide_eq_true h.1, by simpa using h.2⟩
def joinD (d e : D) : Option D := match d, seqStrs e with
  | .str x, some ys => if (ys.map (·.length)).sum + ys.length * x.length ≤ 16777216 ∧ strGb (Txt.join x ys) = true then some (.str (Txt.join x ys)) else none
  | _, _ => none
def isStr : D → Bool
  | .str _ => true
  | _ => false
def eJoin (mo me : EM) : EM := fun ρ => (mo ρ).bind fun d ρ1 => if isStr d then (me ρ1).bind fun e ρ2 => ofO (joinD d e) ρ2 else .bad
theorem de_join {o : Expr} {mo me : EM} (ho : DE X W o mo) (he : DE X W e me) (hs : starEach [e] X.env = [(false, eval e X.env)] := by rfl) (hbase : attributeBase o "join" X.env (eval o X.env) = eval o X.env := by rfl) (hline : (apos.endLine == pos.line) = true := by rfl) :
    DE X W (.Call (.Attribute o "join" apos) [e] [] pos) (eJoin mo me) := by
  obtain ⟨t, pt, s⟩ := ho
  obtain ⟨u, pu, s'⟩ := he
  refine ⟨_, pe_join pt pu hs hbase hline, fun B M H ρ σ Q rp k => s B M H ρ σ _ rp (Post.seq k fun d ρ1 M1 H1 v x1 r1 q1 k1 => ?_)⟩
  cases d with
  | str z =>
    cases q1
    refine ⟨⟨z, rfl⟩, s' B M1 H1 ρ1 σ _ r1 (Post.seq k1 fun d2 ρ2 M2 H2 v2 x2 r2 q2 k2 => ?_)⟩
    cases e2 : seqStrs d2 with
    | none => simp only [joinD, e2] at k2; exact k2.elim
    | some ys =>
      simp only [joinD, e2] at k2
      split at k2
      · rename_i hc
        obtain ⟨l, rfl, h1, _⟩ := seq_strs q2.rq e2
        exact ⟨z, l, ys, rfl, rfl, h1, hc.1, k2 M2 H2 _ Ext.refl r2 (.str (strGb_ok hc.2))⟩
      · exact k2.elim
  | _ => exact k1.elim
def eUpper (m : EM) : EM := fun ρ => (m ρ).bind fun d ρ1 => match d with
  | .str x => if x.length ≤ 5592405 ∧ strGb (Txt.upper x) = true then .ok (.str (Txt.upper x)) ρ1 else .bad
  | _ => .bad
theorem de_upper {o : Expr} {mo : EM} (ho : DE X W o mo) (hbase : attributeBase o "upper" X.env (eval o X.env) = eval o X.env := by rfl) (hline : (apos.endLine == pos.line) = true := by rfl) : DE X W (.Call (.Attribute o "upper" apos) [] [] pos) (eUpper mo) := by
  obtain ⟨t, pt, s⟩ := ho
  refine ⟨_, pe_upper pt hbase hline, fun B M H ρ σ Q rp k => s B M H ρ σ _ rp (Post.seq k fun d ρ1 M1 H1 v x1 r1 q1 k1 => ?_)⟩
  cases d with
  | str z =>
    cases q1
    simp only at k1
    split at k1
    · rename_i hc
      exact ⟨⟨z, rfl⟩, z, rfl, rfl, hc.1, k1 M1 H1 _ Ext.refl r1 (.str (strGb_ok hc.2))⟩
    · exact k1.elim
  | _ => exact k1.elim
end
end NV

set_option Elab.async false
set_option linter.all false
set_option maxRecDepth 100000
set_option maxHeartbeats 4000000
/-! Core14: dict displays, calls without arguments, [::-1], list methods, str(i), tuple(text). -/
namespace NV
open PySem PySem.Spec PyProof.Rows L2

/-! ### {k: v, ..} -/
def DPr (X : Cx) (W : WX) (pos : Pos) (ks : List (Option Expr)) (vs : List Expr) (m : Env → Res (List (D × D))) : Prop := ∃ trs, PPs X pos ks vs trs ∧
  ∀ (B : Base) (M : Addr → Prop) (H : Hp) (ρ : Env) (σ : St) (Q : List (V × V) → Hp → Prop), Rep X.K B M H ρ σ → Post X B W (fun M' H' _ ds ps => Paired (fun (d : D × D) (p : V × V) => Rp X.K M' H' d.1 p.1 ∧ Rp X.K M' H' d.2 p.2) ds ps) M H σ (m ρ) Q → tPairs trs σ H Q
def pNil : Env → Res (List (D × D)) := fun ρ => .ok [] ρ
def pCons (mk mv : EM) (mr : Env → Res (List (D × D))) : Env → Res (List (D × D)) := fun ρ => (mk ρ).bind fun k ρ1 => (mv ρ1).bind fun v ρ2 => (mr ρ2).bind fun r ρ3 => .ok ((k, v) :: r) ρ3
def keysD : List (D × D) → Option (List (Key × D))
  | [] => some []
  | (k, v) :: r => match keyD k, keysD r with
    | some k', some r' => if r'.any (fun kv => decide (kv.1 = k')) = false then some ((k', v) :: r') else none
    | _, _ => none
def eDct (m : Env → Res (List (D × D))) : EM := fun ρ => (m ρ).bind fun ps ρ1 => if ps.length ≤ 15 then (ofO (keysD ps) ρ1).bind fun kvs _ => .ok (.dct kvs) ρ1 else .bad
theorem merge_nodup : ∀ (more kvs : List (Key × V)), (∀ kv ∈ more, kvs.any (fun z => decide (z.1 = kv.1)) = false) → more.Pairwise (fun a b => a.1 ≠ b.1) → mergeK kvs more = kvs ++ more
  | [], kvs, _, _ => by simp [mergeK]
  | (k, v) :: more, kvs, h1, h2 => by
    have e : putK kvs k v = kvs ++ [(k, v)] := by
      unfold putK
      rw [if_neg (by rw [h1 (k, v) List.mem_cons_self]; simp)]
    have p := List.pairwise_cons.mp h2
    show mergeK (putK kvs k v) more = _
    rw [e, merge_nodup more (kvs ++ [(k, v)]) (fun kv hkv => ?_) p.2]
    · simp
    · rw [List.any_append, h1 kv (List.mem_cons_of_mem _ hkv)]
      simp only [List.any_cons, List.any_nil, Bool.or_false, Bool.false_or]
      exact decide_eq_false (p.1 kv hkv)
section
variable {X : Cx} {W : WX} {pos p apos cpos : Pos}
theorem dpr_nil : DPr X W pos [] [] pNil := ⟨_, pps_nil, fun B M H ρ σ Q rp k => k M H [] Ext.refl rp .nil⟩
theorem dpr_cons {k v : Expr} {ks : List (Option Expr)} {vs : List Expr} {mk mv : EM} {mr : Env → Res (List (D × D))} (hk : DE X W k mk) (hv : DE X W v mv) (hr : DPr X W pos ks vs mr) : DPr X W pos (some k :: ks) (v :: vs) (pCons mk mv mr) := by
  obtain ⟨tk, pk, sk⟩ := hk
  obtain ⟨tv, pv, sv⟩ := hv
  obtain ⟨tr, pr, sr⟩ := hr
  refine ⟨_, pps_cons pk pv pr, fun B M H ρ σ Q rp kk => sk B M H ρ σ _ rp (Post.seq kk fun d ρ1 M1 H1 x x1 r1 q1 k1 => sv B M1 H1 ρ1 σ _ r1 (Post.seq k1 fun e ρ2 M2 H2 y x2 r2 q2 k2 => sr B M2 H2 ρ2 σ _ r2 (Post.seq k2 fun ds ρ3 M3 H3 ps x3 r3 q3 k3 => ?_)))⟩
  exact k3 M3 H3 _ Ext.refl r3 (.cons ⟨Rp.ext (x2.trans x3) q1, Rp.ext x3 q2⟩ q3)
theorem key_kV {K : PySem.W.Frag} {M : Addr → Prop} {H : Hp} {d : D} {v : V} {k : Key} (h : Rp K M H d v) (e : keyD d = some k) : v = kV k := by
  cases d with
  | int i => cases h; cases e; rfl
  | str x => cases h; cases e; rfl
  | _ => cases e
theorem keys_rpk {K : PySem.W.Frag} {M : Addr → Prop} {H : Hp} : ∀ {ds : List (D × D)} {ps : List (V × V)} {kvs : List (Key × D)}, Paired (fun (d : D × D) (p : V × V) => Rp K M H d.1 p.1 ∧ Rp K M H d.2 p.2) ds ps → keysD ds = some kvs →
    ∃ ws : List (Key × V), ps = ws.map (fun kv => (kV kv.1, kv.2)) ∧ RpK K M H kvs ws ∧ ws.Pairwise (fun a b => a.1 ≠ b.1) ∧ ws.map (·.1) = kvs.map (·.1)
  | [], _, kvs, h, e => by cases h; cases e; exact ⟨[], rfl, .nil, .nil, rfl⟩
  | (k, v) :: ds, _, kvs, h, e => by
    cases h with
    | @cons _ b _ bs h1 h2 =>
      obtain ⟨x, y⟩ := b
      unfold keysD at e
      cases e1 : keyD k with
      | none => simp only [e1] at e; cases e
      | some k' =>
        cases e2 : keysD ds with
        | none => simp only [e1, e2] at e; cases e
        | some r' =>
          simp only [e1, e2] at e
          split at e
          · rename_i hn
            cases e
            obtain ⟨ws, q1, q2, q3, q4⟩ := keys_rpk h2 e2
            have ex : x = kV k' := key_kV h1.1 e1
            refine ⟨(k', y) :: ws, by rw [q1, ex]; rfl, .cons h1.2 q2, List.pairwise_cons.mpr ⟨fun kv hkv z => ?_, q3⟩, by simp [q4]⟩
            have hm : kv.1 ∈ r'.map (·.1) := by rw [← q4]; exact List.mem_map_of_mem hkv
            obtain ⟨z2, hz2, ez⟩ := List.mem_map.mp hm
            have := List.any_eq_false.mp hn z2 hz2
            simp at this
            exact this (by rw [ez]; exact z.symm)
          · cases e
theorem df_disp {ks : List (Option Expr)} {vs : List Expr} {m : Env → Res (List (D × D))} (h : DPr X W pos ks vs m) (hall : ks.all (·.isSome) = true) (hl : ks.length = vs.length) (h0 : ks ≠ []) (h15 : ks.length ≤ 15) : DF X W (.Dict ks vs pos) (eDct m) := by
  obtain ⟨trs, pp, s⟩ := h
  refine ⟨_, pe_disp pp hall hl h0 h15, fun B M H ρ σ Q rp k => ?_⟩
  intro a ha
  have hb := rp.base_new (X := X) ha
  have np := rp.pr_new (X := X) ha
  have an := rp.anon_new (X := X) ha
  have r0 : Rep X.K (B.with a (.dK [])) (fun b => M b ∨ b = a) (upd H a (.dK [])) ρ σ := (rp.allocO ha).prot (.inr rfl) upd_same an
  refine s (B.with a (.dK [])) _ _ ρ σ _ r0 ?_
  unfold eDct at k
  cases em : m ρ with
  | bad => rw [em] at k; exact k
  | exc x ρ1 => rw [em] at k; exact fun M2 H2 c dx x2 r2 q2 => k M2 H2 c dx ((Ext.newO ha).trans x2) r2.unprot.1 q2
  | ok ps ρ1 =>
    rw [em] at k
    simp only [Res.bind] at k
    intro M2 H2 pv x2 r2 q2
    obtain ⟨u1, u2, u3, u4⟩ := r2.unprot
    by_cases hc : ps.length ≤ 15
    · rw [if_pos hc] at k
      cases ek : keysD ps with
      | none => rw [ek] at k; exact k.elim
      | some kvs =>
        rw [ek] at k
        simp only [ofO, Res.bind] at k
        obtain ⟨ws, e1, e2, e3, e4⟩ := keys_rpk q2 ek
        have hlen : ws.length ≤ 15 := by
          have h1 : ps.length = pv.length := by
            have : ∀ {as : List (D × D)} {bs : List (V × V)}, Paired (fun (d : D × D) (p : V × V) => Rp X.K M2 H2 d.1 p.1 ∧ Rp X.K M2 H2 d.2 p.2) as bs → as.length = bs.length := by
              intro as bs h
              induction h with
              | nil => rfl
              | cons _ _ ih => simp [ih]
            exact this q2
          rw [e1, List.length_map] at h1
          omega
        refine ⟨u3, ws, e1, hlen, ?_⟩
        rw [merge_nodup ws [] (fun _ _ => rfl) e3, List.nil_append]
        have xw : Ext M2 H2 M2 (upd H2 a (.dK ws)) := Ext.write u2 u3 fun z => z
        have hk : kvs.length = ws.length := by rw [← List.length_map (f := (·.1)), ← e4, List.length_map]
        refine k M2 _ _ ((Ext.newO ha).trans (x2.trans xw)) (u1.writeAnon u2 u3 u4 hb np fun z => z) ⟨a, rfl, ⟨u2, by rw [hk, sizeLine_eq]; omega, ws, upd_same, RpK.ext xw e2⟩, hb, u4, np⟩
    · rw [if_neg hc] at k; exact k.elim

/-! ### f() -/
def eCall0 (fr : Bool) (F : List D → FRes) : EM := fun ρ => match F [] with
  | .ok r [] => if fr = false then .ok r ρ else .bad
  | .okF r [] => if fr = true then .ok r ρ else .bad
  | .exc x [] => .exc x ρ
  | _ => .bad
def tCall0 (sp : Sp) (E : St → XK) : TE := fun σ H Q => sp [] H Q (E σ)
theorem pe_callS0 {CX : CXT} {k : Nat} {f : Addr} {fd : FuncData} {ps : List Str} {sp : Sp} {E : St → XK} {x : Str} (F : FnOk X.prog X.w X.K X.mg X.base CX k f fd ps sp) (hr : Room k X.A) (hg : Gl X x) (hm : X.mg x = some (.ref f)) (hk : PySem.W.keepIn X.K (.ref f) = true) (hb : Binds X.K fd ps []) (hx : ∀ σ, PassesAt CX X σ (E σ))
    (hdb : (x == ("__debug__" : Str)) = false := by decide) : PE X (.Call (.Name x p) [] [] pos) (tCall0 sp E) := by
  refine ⟨fun pins s σ H Q I h => ?_⟩
  refine wpAny_Call_Name_kw (ld_glob I hg hm ?_ hdb)
  exact PySem.W.callWith_K0 I.kIn hk (run_fnS (us := []) F hr hb (hx σ) I .nil h)
theorem call0_post {x : Str} {k : Nat} {F : List D → FRes} {fr : Bool} {R : Base → St → (Addr → Prop) → Hp → Env → D → V → Prop} (hR : R = fun B σ => if fr then RelF X.K B σ else RelE X.K) :
    Sat X W R (tCall0 (spF X.K X.mg [] F) (WE W)) (eCall0 fr F) := by
  subst hR
  intro B M H ρ σ Q rp k
  unfold eCall0 at k
  refine ⟨M, [], [], fun b h => rp.trk b h, List.nodup_nil, trivial, ?_⟩
  cases e : F [] with
  | ok r os =>
    cases os with
    | cons _ _ => rw [e] at k; exact k.elim
    | nil =>
      rw [e] at k
      simp only at k
      cases fr with
      | false =>
        rw [if_pos rfl] at k
        intro H' v hk hp hr
        obtain ⟨r2, x2⟩ := rp.called (is := []) .nil hk (fun _ h => h) (fun _ h => .inl h) (fun b h => hk.trk hp (rp.trk b h)) hp rfl
        exact k M H' v x2 r2 hr
      | true => exact k.elim
  | okF r os =>
    cases os with
    | cons _ _ => rw [e] at k; exact k.elim
    | nil =>
      rw [e] at k
      simp only at k
      cases fr with
      | true =>
        intro H' a hk hn hp hr
        obtain ⟨o, q, _⟩ := hr.there
        obtain ⟨r2, x2⟩ := rp.called (M' := fun b => M b ∨ b = a) (is := []) .nil hk (fun _ h => .inl h) (fun b h => h.imp id fun e => by rw [e]; exact hn) (fun b h => h.elim (fun h => hk.trk hp (rp.trk b h)) fun e => by rw [e, q]; intro z; cases z) hp rfl
        refine k _ H' _ x2 r2 ⟨a, rfl, hr, rp.base_new (X := X) hn, rp.anon_new (X := X) hn, rp.pr_new (X := X) hn⟩
      | false => exact k.elim
  | exc x os =>
    cases os with
    | cons _ _ => rw [e] at k; exact k.elim
    | nil =>
      rw [e] at k
      intro H' c dx hk hp hr
      obtain ⟨r2, x2⟩ := rp.called (is := []) .nil hk (fun _ h => h) (fun _ h => .inl h) (fun b h => hk.trk hp (rp.trk b h)) hp rfl
      exact k M H' c dx x2 r2 hr
  | bad => rw [e] at k; exact k.elim
theorem de_callH0 {x : Str} {k n : Nat} {F : List D → FRes} (h : Has X.prog X.w X.K X.mg X.base k x [] F) (hr : Room n X.A) (hg : Gl X x) (tk : Takes X W) (hk : k ≤ n := by decide) (hdb : (x == ("__debug__" : Str)) = false := by decide) : DE X W (.Call (.Name x p) [] [] pos) (eCall0 false F) := by
  obtain ⟨f, fd, ps, h1, h2, h3, h4⟩ := h
  exact ⟨_, pe_callS0 (h1.mono hk) hr hg h2 h3 h4 (fun σ => passAt tk σ) hdb, call0_post (k := k) (x := x) (fr := false) rfl⟩
theorem df_callH0 {x : Str} {k n : Nat} {F : List D → FRes} (h : Has X.prog X.w X.K X.mg X.base k x [] F) (hr : Room n X.A) (hg : Gl X x) (tk : Takes X W) (hk : k ≤ n := by decide) (hdb : (x == ("__debug__" : Str)) = false := by decide) : DF X W (.Call (.Name x p) [] [] pos) (eCall0 true F) := by
  obtain ⟨f, fd, ps, h1, h2, h3, h4⟩ := h
  exact ⟨_, pe_callS0 (h1.mono hk) hr hg h2 h3 h4 (fun σ => passAt tk σ) hdb, call0_post (k := k) (x := x) (fr := true) rfl⟩
/-! ### str(i), tuple('..') -/
def strI : List D → Option D
  | [.int i] => if i.natAbs.log2 < 1920 ∧ strGb (toString i : Str) = true then some (.str (toString i : Str)) else none
  | _ => none
theorem f_strI : CallE X strI (fun xs H Q => ∃ i, xs = [.int i] ∧ i.natAbs.log2 < 1920 ∧ Q (.str (toString i)) H) := by
  intro B W M H ρ σ ds z xs Q rp hp hf h
  unfold strI at hf
  split at hf
  · split at hf
    · rename_i hc
      cases hf
      cases hp with | cons a b => cases b; obtain rfl := rq_int a; exact ⟨_, rfl, hc.1, post_v h rp (.str (strGb_ok hc.2))⟩
    · cases hf
  · cases hf
def signs (x : Str) : List D := x.cps.toList.map fun c => .str ⟨#[c]⟩
end
end NV

set_option Elab.async false
set_option linter.all false
set_option maxRecDepth 100000
set_option maxHeartbeats 4000000
/-! Core15: e[::-1] of a list, a tuple, a text. -/
namespace NVS
open PySem PySem.Spec PyProof.Rows HT
section
variable {pr : Program} {wo : World} {A : Around} {X0 : Value → Shared → Prop} {st : Shared}
theorem adjust_rev (n : Nat) : Builtin.Slice.sliceAdjust none none (-1) (n : Int) = ((n : Int) - 1, -1) := rfl
theorem places_rev (n : Nat) : Builtin.Slice.slicePlaces ((n : Int) - 1) (-1) (-1) = n := by
  unfold Builtin.Slice.slicePlaces
  have h1 : ¬ ((-1 : Int) > 0) := by decide
  rw [if_neg h1]
  by_cases h : (n : Int) - 1 > -1
  · rw [if_pos h]
    have e : ((n : Int) - 1 - -1 - 1) / (- -1) + 1 = (n : Int) := by
      rw [show (- -1 : Int) = 1 by decide, Int.ediv_one]
      omega
    rw [e]
    exact Int.toNat_natCast n
  · rw [if_neg h]
    omega
theorem applied_rev {sl : Addr} {n : Nat} {u : Tok} {R : Int × Int × Nat → Shared → Prop} (hs : st.heap.IsSliceOf sl .none .none (.int (-1) u)) (h : R ((n : Int) - 1, -1, n) st) : wpAny (model pr wo) A (Builtin.Slice.sliceApplied (.ref sl) (pure (n : Int))) R X0 st := by
  obtain ⟨ob, hob, cob, dob⟩ := id hs
  unfold Builtin.Slice.sliceApplied Builtin.Slice.sliceFields
  refine wpAny_bind (wpAny_bind (wpAny_field hob dob (x := .none) rfl (wpAny_bind (wpAny_field hob dob (x := .none) rfl (wpAny_bind (wpAny_field hob dob (x := .int (-1) u) rfl (wpAny_pure ?_)))))))
  refine wpAny_bind (slicePart_int ?_)
  show wpAny _ _ (if ((-1 : Int) == 0) = true then _ else _) _ _ st
  rw [if_neg (by decide)]
  refine wpAny_bind (slicePart_none (wpAny_bind (slicePart_none (wpAny_bind (wpAny_pure ?_)))))
  show wpAny _ _ (match Builtin.Slice.sliceAdjust none none (-1) (n : Int) with | (a, b) => pure (a, (-1 : Int), Builtin.Slice.slicePlaces a b (-1))) _ _ st
  rw [adjust_rev]
  show wpAny _ _ (pure ((n : Int) - 1, (-1 : Int), Builtin.Slice.slicePlaces ((n : Int) - 1) (-1) (-1))) _ _ st
  rw [places_rev]
  exact wpAny_pure h
theorem pick_rev (xs : Array Value) : ((List.range xs.size).filterMap fun (k : Nat) => xs[((xs.size : Int) - 1 + (k : Int) * -1).toNat]?).toArray = xs.toList.reverse.toArray := by
  have e : (List.range xs.size).filterMap (fun (k : Nat) => xs[((xs.size : Int) - 1 + (k : Int) * -1).toNat]?) = ((List.range xs.size).map fun k => xs.size - 1 - k).filterMap (xs[·]?) := by
    have e1 : ∀ (f : Nat → Option Value) (l : List Nat), l.filterMap f = (l.map f).filterMap id := fun f l => by rw [List.filterMap_map]; rfl
    rw [List.filterMap_map, e1, e1]
    congr 1
    refine List.map_congr_left fun k hk => ?_
    have := List.mem_range.mp hk
    show xs[((xs.size : Int) - 1 + (k : Int) * -1).toNat]? = xs[xs.size - 1 - k]?
    rw [show ((xs.size : Int) - 1 + (k : Int) * -1).toNat = xs.size - 1 - k by omega]
  rw [e, PySem.W.krv_range, List.filterMap_reverse, PySem.W.krv_all]
theorem tuple_rev {t sl : Addr} {arr : Array Value} {u : Tok} {R : Value → Shared → Prop} (ht : IsTup st.heap t arr) (hs : st.heap.IsSliceOf sl .none .none (.int (-1) u))
    (h : R (.ref st.heap.objs.size) { st with heap := st.heap.push { cls := .type "tuple", data := .seq arr.toList.reverse.toArray } }) (sz : arr.size ≤ sizeLine) : wpAny (model pr wo) A (getItem (.ref t) (.ref sl)) R X0 st := by
  have fits : sizeOk (.seq arr.toList.reverse.toArray) := by
    show arr.toList.reverse.toArray.size ≤ sizeLine
    rw [List.size_toArray, List.length_reverse, Array.length_toList]
    exact sz
  obtain ⟨ob, hob, cob, dob⟩ := id hs
  have ty : st.TypeIs (.ref sl) "slice" := ⟨ob, hob, cob⟩
  unfold getItem
  try with_reducible refine wpAny_holding ?_
  first | refine wpAny_bind (wpAny_pure ?_) | skip
  refine wpAny_bind (wpAny_sequenceKey ht.typeIs (by decide) ?_)
  refine wpAny_bind (wpAny_callSpecial?_slot (name := Str.ofString "__getitem__") ht.typeIs slot_tuple_getitem (wpAny_call_entry slot_tuple_getitem ht.typeIs entry_tuple_getitem ?_ (args_tuple_getitem _ _)))
  show wpAny _ _ (Builtin.Tuple.tupleItemsOf (.ref t) >>= _) _ _ st
  refine wpAny_bind (tupleItemsOf_ ht ?_)
  refine wpAny_bind (wpAny_typeOf ty ?_)
  rw [if_pos (by decide)]
  refine wpAny_bind (applied_rev hs ?_)
  show wpAny _ _ (if (((arr.size : Int) - 1) == 0 && (-1 : Int) == 1 && arr.size == arr.size) = true then _ else _) _ _ st
  rw [if_neg (by simp), pick_rev]
  first
    | exact wpAny_bind (m := Builtin.Tuple.tupleExact _) (wpAny_newObj_type (wpAny_pure ⟨_, rfl, wpAny_pure h⟩) fits)
    | exact wpAny_bind (m := Builtin.Tuple.tupleExact _) (wpAny_newObj_type (wpAny_bind (wpAny_pure (wpAny_pure ⟨_, rfl, wpAny_pure h⟩))) fits)
    | exact wpAny_bind (wpAny_bind (m := Builtin.Tuple.tupleExact _) (wpAny_newObj_type (wpAny_pure (wpAny_pure ⟨_, rfl, wpAny_pure h⟩)) fits))
    | exact wpAny_bind (wpAny_bind (m := Builtin.Tuple.tupleExact _) (wpAny_newObj_type (wpAny_pure ⟨_, rfl, wpAny_pure h⟩) fits))
end
end NVS

namespace NV
open PySem PySem.Spec PyProof.Rows L2
def revS (x : Str) : Str := ⟨x.cps.toList.reverse.toArray⟩
theorem revS_length (x : Str) : (revS x).length = x.length := by
  show x.cps.toList.reverse.toArray.size = x.cps.size
  rw [List.size_toArray, List.length_reverse, Array.length_toList]
theorem revS_ok {x : Str} (h : StrG x) : StrG (revS x) := by
  refine ⟨by rw [revS_length]; exact h.1, ?_⟩
  have h2 := h.2
  unfold PySem.PyData.strOk at h2 ⊢
  rw [Array.all_eq_true_iff_forall_mem] at h2 ⊢
  intro c hc
  exact h2 c (by simpa [revS] using hc)
theorem picked_rev (x : Str) (t : Tok) : sliceMade x t none none (some (-1, t)) = Made.str (revS x) := by
  unfold sliceMade
  rw [if_neg (by simp)]
  have e : slicePicked x none none (some (-1, t)) = (List.range x.length).map fun k => x.length - 1 - k := by
    unfold slicePicked
    show Builtin.Str.strSliceIndices none none (-1) x.length = _
    unfold Builtin.Str.strSliceIndices
    exact PySem.W.krv_sliceRange x.length
  have e2 : x.length = x.cps.size := rfl
  rw [e, PySem.W.krv_range, List.filterMap_reverse, e2, PySem.W.krv_all]
  rfl
def revD (d : D) : Option D := match d with
  | .lst ds => some (.lst ds.reverse)
  | .tup ds => some (.tup ds.reverse)
  | .str x => some (.str (revS x))
  | _ => none
section
variable {X : Cx} {W : WX}
def tRev3 (K : PySem.W.Frag) (te : TE) : TE := fun σ H Q => te σ H fun x H1 => (∃ a xs, x = .ref a ∧ SqL K H1 a xs ∧ ∀ p, H1 p = none → Q (.ref p) (upd H1 p (.lst xs.reverse))) ∨ (∃ a xs, x = .ref a ∧ SqT K H1 a xs ∧ ∀ p, H1 p = none → Q (.ref p) (upd H1 p (.tup xs.reverse))) ∨
  ∃ z, x = .str z ∧ z.length ≤ sizeLine ∧ Q (.str (revS z)) H1
theorem pe_rev3 {e : Expr} {te : TE} {k : Nat} {p1 p2 p3 pos : Pos} (he : PE X e te) : PE X (.Subscript e (.Slice none none (some (.UnaryOp .USub (.Constant (.int 1) k p1) p2)) p3) pos) (tRev3 X.K te) := by
  refine ⟨fun pins s σ H Q I h => ?_⟩
  refine Subscript_ (thn (he.run pins s σ H _ I h) fun v s1 ⟨x, H1, I1, r1, q1⟩ => ?_)
  have step : PO X (some (.UnaryOp .USub (.Constant (.int 1) k p1) p2)) (tPart (tUn (rU fun i => .int (-i)) (tC (.int 1)))) := po_some (pe_un un_neg pe_int)
  refine wpAny_Slice (thn (po_none.run pins s1 σ H1 (fun o H2 => o = none ∧ H2 = H1) I1 ⟨rfl, rfl⟩) fun vl s2 ⟨l, H2, I2, pl, el, e2⟩ => ?_)
  subst el e2
  refine thn (po_none.run pins s2 σ H2 (fun o H3 => o = none ∧ H3 = H2) I2 ⟨rfl, rfl⟩) fun vu s3 ⟨u, H3, I3, pu, eu, e3⟩ => ?_
  subst eu e3
  refine thn (step.run pins s3 σ H3 (fun o H4 => o = some (-1) ∧ H4 = H3) I3 ⟨1, rfl, -1, rfl, rfl, rfl⟩) fun vs s4 ⟨o, H4, I4, ps, eo, e4⟩ => ?_
  subst eo e4
  cases pl
  cases pu
  have ⟨tk, evs⟩ : ∃ t, vs = .int (-1) t := by cases ps with | int _ t => exact ⟨t, rfl⟩
  subst evs
  have I5 : Inv X pins σ H4 { s4 with heap := s4.heap.push { cls := .type "slice", data := .fields #[.none, .none, .int (-1) tk] } } := I4.kept (t' := s4.toks) fun b ob q => Heap.get?_push_of_some _ q
  show wpAny (model X.prog X.w) X.A (subscriptTail e (.Slice none none (some (.UnaryOp .USub (.Constant (.int 1) k p1) p2)) p3) v (.ref s4.heap.objs.size)) (EP X pins σ Q) X.xe { s4 with heap := s4.heap.push { cls := .type "slice", data := .fields #[.none, .none, .int (-1) tk] } }
  rcases q1 with ⟨a, xs, ex, hx, q⟩ | ⟨a, xs, ex, hx, q⟩ | ⟨z, ex, hz, q⟩
  · subst ex
    cases r1
    obtain ⟨its, r, ht, hz⟩ := I5.list hx
    have hlen := r.length
    refine tail_any (ops := [.ref a, .ref s4.heap.objs.size]) ht.isList.typeIs (PySem.slot_list_getitem.lookup) ?_ (by with_unfolding_all rfl)
    refine wpAny_getItem_list_slice ht.isList (Heap.IsSliceOf.new _ .none .none (.int (-1) tk)) .none .none (.int _ _) (by decide) ?_ (by rw [List.size_toArray]; omega)
    rw [PySem.W.krv_pick]
    refine ⟨.ref _, _, I5.laid (t' := s4.toks) (o := .lst xs.reverse) (fun b ob q => Heap.get?_push_of_some _ q) (Nat.le_refl _) ?_, rfl, q _ (I5.hok.fresh (Nat.le_refl _))⟩
    exact ⟨by rw [List.length_reverse]; exact hz, _, 0, r.reverse, Heap.get?_push_size _ rfl⟩
  · subst ex
    cases r1
    obtain ⟨its, r, ht, hz⟩ := I5.tuple hx
    have hlen := r.length
    refine tail_any (ops := [.ref a, .ref s4.heap.objs.size]) ht.typeIs (PyProof.Rows.slot_tuple_getitem.lookup) ?_ (by with_unfolding_all rfl)
    refine NVS.tuple_rev ht (Heap.IsSliceOf.new _ .none .none (.int (-1) tk)) ?_ (by rw [List.size_toArray]; omega)
    refine ⟨.ref _, _, I5.laid (t' := s4.toks) (o := .tup xs.reverse) (fun b ob q => Heap.get?_push_of_some _ q) (Nat.le_refl _) ?_, rfl, q _ (I5.hok.fresh (Nat.le_refl _))⟩
    exact ⟨by rw [List.length_reverse]; exact hz, _, r.reverse, IsTup.new _ _⟩
  · subst ex
    obtain ⟨t, rfl⟩ := r1
    refine tail_any (ops := [.str z t, .ref s4.heap.objs.size]) (typeIs_str _ _ _) (F.slot_str_getitem.lookup) ?_ (by with_unfolding_all rfl)
    refine wpAny_getItem_str_slice (l := none) (u := none) (st := some (-1, tk)) (Heap.IsSliceOf.new _ .none .none (.int (-1) tk)) rfl ?_
    have e : sliceMade z t none none (some (-1, tk)) = Made.str (revS z) := picked_rev z t
    rw [e]
    exact ⟨by rw [revS_length]; exact hz, .str _, H4, I5.tok _, ⟨_, rfl⟩, q⟩
def eRev (m : RM) : EM := fun ρ => (m ρ).bind fun x ρ1 => (ofO (x.get ρ1) ρ1).bind fun d _ => ofO (revD d) ρ1
theorem de_rev {e : Expr} {m : RM} {k : Nat} {p1 p2 p3 pos : Pos} (h : DR X W e m) : DE X W (.Subscript e (.Slice none none (some (.UnaryOp .USub (.Constant (.int 1) k p1) p2)) p3) pos) (eRev m) := by
  obtain ⟨t, pt, s⟩ := h
  refine ⟨_, pe_rev3 pt, fun B M H ρ σ Q rp k => s B M H ρ σ _ rp (Post.seq k fun x ρ1 M1 H1 v x1 r1 q1 k1 => ?_)⟩
  cases ex : x.get ρ1 with
  | none => rw [ex] at k1; exact k1.elim
  | some d =>
    rw [ex] at k1
    simp only [ofO, Res.bind] at k1
    have hq := q1.rq Ext.refl r1 ex
    cases d with
    | lst ds =>
      obtain ⟨a, vs, rfl, l, h1, h2⟩ := rq_lst hq
      exact .inl ⟨a, vs, rfl, SqL.of h1, fun p hp => post_l k1 r1 h2.reverse (by rw [List.length_reverse]; exact l) hp⟩
    | tup ds =>
      obtain ⟨a, vs, rfl, l, h1, h2⟩ := rq_tup hq
      exact .inr (.inl ⟨a, vs, rfl, h1, fun p hp => post_t k1 r1 h2.reverse (by rw [List.length_reverse]; exact l) hp⟩)
    | str z =>
      obtain ⟨rfl, g⟩ := rq_str hq
      exact .inr (.inr ⟨z, rfl, g.1, post_v k1 r1 (.str (revS_ok g))⟩)
    | _ => exact k1.elim
end
end NV

set_option Elab.async false
set_option linter.all false
set_option maxRecDepth 100000
set_option maxHeartbeats 4000000
/-! Core16: tuple(text), more list methods, defs that call themselves, facts of globals. -/
namespace NV
open PySem PySem.Spec PyProof.Rows L2

/-! ### tuple(x), x a list, a tuple, a text -/
def rTupS : List V → Hp → VK → Prop := fun xs H Q => ∃ x : Str, xs = [.str x] ∧ x.length ≤ sizeLine ∧ ∀ p, H p = none → Q (.ref p) (upd H p (.tup (x.cps.toList.map fun c => V.str ⟨#[c]⟩)))
section
variable {X : Cx} {W : WX}
theorem call_tupS (hc : X.calm = true) : CallR X (.type "tuple") rTupS := by
  intro pins s σ H xs us Q I r h
  obtain ⟨x, rfl, hz, q⟩ := h
  obtain ⟨u, rfl, t, rfl⟩ := vals1 r
  refine call_tuple_str (I.ok.hd hc) x t (fun g k acc hk hi => ?_) hz
  have I2 : Inv X pins σ H { s with heap := g, toks := k } := I.kept hk
  have hv : Vals (x.cps.toList.map fun c => V.str ⟨#[c]⟩) acc.toList := by
    refine vals_of_at (by rw [List.length_map, Array.length_toList, Array.length_toList, hi.1]) fun j v u hj hu => ?_
    obtain ⟨c, tk, e1, rfl⟩ := hi.2 j u (by rw [← hu, Array.getElem?_toList])
    rw [List.getElem?_map, Array.getElem?_toList, e1] at hj
    cases hj
    exact ⟨tk, rfl⟩
  refine ⟨.ref g.objs.size, _, I2.laid (t' := k) (fun c o e => Heap.get?_push_of_some _ e) (Nat.le_refl _) (show ObjOk X.prog X.w _ _ _ (.tup (x.cps.toList.map fun c => V.str ⟨#[c]⟩)) from ⟨?_, acc.toList, hv, ?_⟩), rfl, q _ (I2.hok.fresh (Nat.le_refl _))⟩
  · rw [List.length_map, Array.length_toList]; exact hz
  · rw [Array.toArray_toList]; exact IsTup.new _ _
def tuple3D : List D → Option D
  | [.lst xs] => some (.tup xs)
  | [.tup xs] => some (.tup xs)
  | [.str x] => some (.tup (x.cps.toList.map fun c => D.str ⟨#[c]⟩))
  | _ => none
def rTup3 (K : PySem.W.Frag) : List V → Hp → VK → Prop := fun xs H Q => (∃ p ys, xs = [.ref p] ∧ ((SqL K H p ys ∧ ∀ l, H l = none → Q (.ref l) (upd H l (.tup ys))) ∨ (SqT K H p ys ∧ Q (.ref p) H))) ∨ rTupS xs H Q
theorem call_tup3 (hc : X.calm = true) : CallR X (.type "tuple") (rTup3 X.K) := call_tuple_of.or (call_tupS hc)
theorem sign_ok {x : Str} (h : StrG x) {c : Nat} (hc : c ∈ x.cps.toList) : StrG ⟨#[c]⟩ := by
  refine ⟨by rw [sizeLine_eq]; show (1 : Nat) ≤ _; omega, ?_⟩
  have h2 := h.2
  unfold PySem.PyData.strOk at h2 ⊢
  rw [Array.all_eq_true_iff_forall_mem] at h2 ⊢
  intro y hy
  have e : y = c := by simpa using hy
  subst e
  exact h2 y (by simpa using hc)
theorem signs_rpl {K : PySem.W.Frag} {M : Addr → Prop} {H : Hp} : ∀ (cs : List Nat), (∀ c ∈ cs, StrG ⟨#[c]⟩) → RpL K M H (cs.map fun c => D.str ⟨#[c]⟩) (cs.map fun c => V.str ⟨#[c]⟩)
  | [], _ => .nil
  | c :: cs, h => .cons (.str (h c List.mem_cons_self)) (signs_rpl cs fun c hc => h c (List.mem_cons_of_mem _ hc))
theorem f_tup3 : CallE X tuple3D (rTup3 X.K) := by
  intro B W M H ρ σ ds z xs Q rp hp hf h
  unfold tuple3D at hf
  split at hf
  · exact .inl (f_tuple B W M H ρ σ _ z xs Q rp hp hf h)
  · exact .inl (f_tuple B W M H ρ σ _ z xs Q rp hp hf h)
  · cases hf
    cases hp with
    | cons a b =>
      cases b
      obtain ⟨rfl, g⟩ := rq_str a
      exact .inr ⟨_, rfl, g.1, fun p hp => post_t h rp (signs_rpl _ fun c hc => sign_ok g hc) (by rw [List.length_map, Array.length_toList]; exact g.1) hp⟩
  · cases hf

/-! ### xs.extend(ys), xs.pop() -/
def insD (d : D) (xs : List D) : Option (D × D) := match d, xs with
  | .lst ds, [.int i, y] => if ds.length < sizeLine ∧ 0 ≤ i ∧ i < 2 ^ 63 then some (.lst (ds.take i.toNat ++ [y] ++ ds.drop i.toNat), .non) else none
  | _, _ => none
theorem m_insert : MutE X insD (fun x vs H Q => ∃ (l : Addr) (xs : List V) (i : Int) (y : V), x = .ref l ∧ vs = [.int i, y] ∧ H l = some (.lst xs) ∧ xs.length < sizeLine ∧ 0 ≤ i ∧ i < 2 ^ 63 ∧
    Q .non (upd H l (.lst (xs.take i.toNat ++ [y] ++ xs.drop i.toNat)))) := by
  intro M H a d d' z ds xs Q w r hf k
  unfold insD at hf
  split at hf
  · split at hf
    · rename_i hl
      cases hf
      obtain ⟨m, l, vs, e, q⟩ := w
      cases r with
      | cons r1 r2 =>
        cases r2 with
        | @cons _ _ v2 _ r2 r3 =>
          cases r3
          cases r1
          rename_i ds i y
          have hx : Ext M H M (upd H a (.lst (vs.take i.toNat ++ [v2] ++ vs.drop i.toNat))) := Ext.write m e fun z => z
          refine ⟨a, vs, i, _, rfl, rfl, e, by rw [← q.length]; exact hl.1, hl.2.1, hl.2.2, k _ _ ⟨m, ?_, _, upd_same, RpL.ext hx (((q.take _).append (.cons r2 .nil)).append (q.drop _))⟩ fun _ _ => .non⟩
          have := hl.1
          simp only [List.length_append, List.length_take, List.length_drop, List.length_cons, List.length_nil]
          omega
    · cases hf
  · cases hf
end

/-! ### a def that calls itself: n deep -/
def recF (fl : List Bool) (n : Nat) (m : (List D → FRes) → SM) : Nat → List D → FRes
  | 0 => fun _ => .bad
  | k + 1 => runF fl n (m (recF fl n m k))
theorem fn_recD {P : Program} {w : World} {K : PySem.W.Frag} {mg : Str → Option Value} {base : Heap} {x : Str} {st : Stmt} {f : Addr} {fd : FuncData} {N ps : List Str} {k0 : Nat} {fl : List Bool} {m : (List D → FRes) → SM} (D : FnP K x st f fd) (S : FnScope N ps (defScope st)) (hf : fl.length = ps.length) (g : mg x = some (.ref f))
    (hb : ∀ (kV doc pm : Value) (an : Option Addr) (cdv ct : Value) (us : List Value), us.length = ps.length → bindArgs (PySem.W.fnOf x x (defArgs st) (defBody st) (defScope st) .none kV doc pm an cdv ct) ⟨us, []⟩ = pure (ps.zip us))
    (der : ∀ (F : List NV.D → FRes) (k : Nat), k0 ≤ k → Has P w K mg base k x fl F → ∀ (cdv : Value) (A : Around) (outer : List PySem.Env) (s : Shared) (H : Hp) (E : XK), Room k (A.deeper (envOfC x (defScope st) s.heap.objs.size f cdv)) →
      DSs (cxOf (L2.CX P w) P w K mg base N x (defScope st) f cdv A outer s H E) (fun c dx _ H' => E c dx H') (defBody st) (m F)) : ∀ n : Nat, FnOk P w K mg base (L2.CX P w) (k0 + n) f fd ps (spF K mg fl (recF fl N.length m n))
  | 0 => fn_bad
  | n + 1 => fn_defD (k := k0 + n) D S hf (der _ (k0 + n) (Nat.le_add_right _ _) (has_of D (fn_recD D S hf g hb der n) g hb))
theorem Has.up {P : Program} {w : World} {K : PySem.W.Frag} {mg : Str → Option Value} {base : Heap} {j k : Nat} {x : Str} {fl : List Bool} {F : List D → FRes} (h : Has P w K mg base j x fl F) (hk : j ≤ k) : Has P w K mg base k x fl F := by
  obtain ⟨f, fd, ps, h1, h2⟩ := h
  exact ⟨f, fd, ps, h1.mono hk, h2⟩

/-! ### the head's facts, widened by checks of one's own -/
def seesN (fa : List He.Fa) (xs : List (PySem.W.Frag → Bool)) (fn : List He.DefD) (K : PySem.W.Frag) : Bool × He.AlD := (xs.all fun c => c K, He.obsD fa fn K)
def saysN (fa : List He.Fa) (xs : List (PySem.W.Frag → Bool)) (fn : List He.DefD) (K : PySem.W.Frag) : Prop := seesN fa xs fn K = (true, He.valD fn)
def lookN (n : Nat) (fa : List He.Fa) (xs : List (PySem.W.Frag → Bool)) (fn : List He.DefD) (g : Addr → Option Obj) : Bool × He.AlD := seesN fa xs fn (He.frG g (He.asD g n))
def hookN (n : Nat) (fa : List He.Fa) (xs : List (PySem.W.Frag → Bool)) (fn : List He.DefD) : PySem.W.Hook where
  α := Bool × He.AlD
  obs := fun st => lookN n fa xs fn st.heap.get?
  val := fun _ => (true, He.valD fn)
  says := fun _ g => ∃ K : PySem.W.Frag, K.In g ∧ saysN fa xs fn K
  of := fun _ _ q => ⟨_, He.frG_in, q⟩
  keeps := fun _ _ _ ⟨K, inK, q⟩ kp => ⟨K, PySem.W.Frag.In.keeps inK kp, q⟩
theorem lookN_eq {n : Nat} {fa : List He.Fa} {xs : List (PySem.W.Frag → Bool)} {fn : List He.DefD} {g : Addr → Option Obj} {st : Shared} (h : ∀ a, g a = st.heap.get? a) : lookN n fa xs fn g = (hookN n fa xs fn).obs st := by
  rw [show g = st.heap.get? from funext h]
  rfl
theorem saysN.d {fa : List He.Fa} {xs : List (PySem.W.Frag → Bool)} {fn : List He.DefD} {K : PySem.W.Frag} (h : saysN fa xs fn K) : He.SaysD fa fn K := congrArg Prod.snd h
theorem saysN.x {fa : List He.Fa} {xs : List (PySem.W.Frag → Bool)} {fn : List He.DefD} {K : PySem.W.Frag} (h : saysN fa xs fn K) (i : Nat) {c : PySem.W.Frag → Bool} (hi : xs[i]? = some c) : c K = true :=
  List.all_eq_true.mp (congrArg Prod.fst h) c (List.mem_of_getElem? hi)
section
variable {K : PySem.W.Frag} {h : Heap} {mg : Str → Option Value}
theorem gv_int (X : K.In h) (G : h.Ns mainGlobals mg) {x : Str} {i : Int} (c : (He.Fa.int x i).ok K = true) : Gv K mg x (.int i) := by
  obtain ⟨t, e⟩ := He.int_ok X G c
  exact ⟨.int i, _, e, ⟨t, rfl⟩, fun _ _ => .int i⟩
theorem gv_str (X : K.In h) (G : h.Ns mainGlobals mg) {x z : Str} (c : (He.Fa.str x z).ok K = true) (g : strGb z = true) : Gv K mg x (.str z) := by
  obtain ⟨t, e⟩ := He.str_ok X G c
  exact ⟨.str z, _, e, ⟨t, rfl⟩, fun _ _ => .str (strGb_ok g)⟩
/-- a tuple of texts -/
def tupS (x : Str) (zs : List Str) (K : PySem.W.Frag) : Bool := He.tupB K x (zs.map He.Dv.str)
theorem gv_tupS (X : K.In h) (G : h.Ns mainGlobals mg) {x : Str} {zs : List Str} (c : (He.Fa.glo x).ok K = true) (t : tupS x zs K = true) (g : (zs.all strGb && decide (zs.length ≤ 1000)) = true) : Gv K mg x (.tup (zs.map D.str)) := by
  rw [Bool.and_eq_true] at g
  refine ⟨.ref (He.ga K x), .ref (He.ga K x), He.glo_ok X G c, rfl, fun M H => .tup (by rw [List.length_map, sizeLine_eq]; have := of_decide_eq_true g.2; omega) (He.tupB_ok t H) ?_⟩
  have e : (zs.map He.Dv.str).map (He.Dv.v K) = zs.map V.str := by rw [List.map_map]; rfl
  rw [e]
  exact rpl_strs fun y hy => strGb_ok (List.all_eq_true.mp g.1 y hy)
end
end NV

set_option Elab.async false
set_option linter.all false
set_option maxRecDepth 100000
set_option maxHeartbeats 4000000
/-! Core17: tuple * int, sorted(set(ints)), list.count. -/
namespace NVS
open PySem PySem.Spec PyProof.Rows L2
theorem tup_mul_same (l : Addr) (items : Array Value) (n : Nat) (dd : Option Addr) (sl : Array (Option Value)) (x : Int) (u : Tok) (c0 : (decide (x < -(2 ^ 63)) || decide (x ≥ 2 ^ 63)) = false) (c1 : (items.isEmpty || x == 1) = true) :
    Meets (Builtin.«tuple.__mul__» ⟨[.ref l, .int x u], []⟩) (fun _ R st => st.heap.get? l = some { cls := .type "tuple", dict := dd, data := .seq items n, slots := sl } ∧ R (.ok (.ret (Value.ref l))) st) :=
  .of_wp fun pr wo A R st hh => by
    obtain ⟨hp, g, d, tk, os⟩ := st
    obtain ⟨hl, hh⟩ := hh
    have f1 := AutoSeq1.idx_int
    wp_walk using wpAny_loadPart' hl
    repeat (first
      | (refine wpAny_ite_false (decide_eq_false (by rw [c0]; exact Bool.false_ne_true)) ?_; wp_walk using wpAny_loadPart' hl)
      | (refine wpAny_ite_true (decide_eq_true c1) ?_; wp_walk using wpAny_loadPart' hl))
    exact ⟨_, rfl, hh⟩
theorem tup_mul_none (l : Addr) (items : Array Value) (n : Nat) (dd : Option Addr) (sl : Array (Option Value)) (x : Int) (u : Tok) (c0 : (decide (x < -(2 ^ 63)) || decide (x ≥ 2 ^ 63)) = false) (c1 : (items.isEmpty || x == 1) = false) (c2 : (decide (x ≤ 0) || items.isEmpty) = true) :
    Meets (Builtin.«tuple.__mul__» ⟨[.ref l, .int x u], []⟩) (fun _ R st => st.heap.get? l = some { cls := .type "tuple", dict := dd, data := .seq items n, slots := sl } ∧
      R (.ok (.ret (Value.ref st.heap.objs.size))) { st with heap := st.heap.push { cls := Value.type "tuple", data := Data.seq #[] }, toks := st.toks }) :=
  .of_wp fun pr wo A R st hh => by
    obtain ⟨hp, g, d, tk, os⟩ := st
    obtain ⟨hl, hh⟩ := hh
    have f1 := AutoSeq1.idx_int
    wp_walk using wpAny_loadPart' hl
    repeat (first
      | (refine wpAny_ite_false (decide_eq_false (by rw [c0]; exact Bool.false_ne_true)) ?_; wp_walk using wpAny_loadPart' hl)
      | (refine wpAny_ite_false (decide_eq_false (by rw [c1]; exact Bool.false_ne_true)) ?_; wp_walk using wpAny_loadPart' hl)
      | (refine wpAny_ite_true (decide_eq_true c2) ?_; wp_walk using wpAny_loadPart' hl))
    exact ⟨_, rfl, hh⟩
end NVS
namespace NV
open PySem PySem.Spec PyProof.Rows L2
/-! ### tuple * int -/
def rRepAny (K : PySem.W.Frag) : R2 := fun x y H Q => ∃ (l : Addr) (k : Int) (xs : List V), x = .ref l ∧ y = .int k ∧ SqT K H l xs ∧ -(2 ^ 62) ≤ k ∧ k ≤ 1000 ∧ xs.length ≤ 1000 ∧ ((xs = [] ∨ k = 1) → Q (.ref l) H) ∧
  (xs ≠ [] → k ≤ 0 → ∀ p, H p = none → Q (.ref p) (upd H p (.tup []))) ∧ (xs ≠ [] → 2 ≤ k → ∀ p, H p = none → Q (.ref p) (upd H p (.tup (List.replicate k.toNat xs).flatten)))
theorem op_repAny {X : Cx} : OpR X (binaryOp .Mult) (rRepAny X.K) := by
  intro pins s σ H x y v u Q I rx ry h
  obtain ⟨l, k, xs, rfl, rfl, hT, h0, h1, hz, q1, q2, q3⟩ := h
  by_cases c : xs ≠ [] ∧ 2 ≤ k
  · exact op_repT pins s σ H _ _ v u Q I rx ry ⟨l, k, xs, rfl, rfl, hT, c.1, c.2, h1, hz, q3 c.1 c.2⟩
  · cases rx
    obtain ⟨t, rfl⟩ := ry
    obtain ⟨its, r, ⟨⟨cls, dd, data, sl⟩, ho, hc, n, hd⟩, hs⟩ := I.tuple hT
    simp only at hc hd
    subst hc hd
    have c0 : (decide (k < -(2 ^ 63)) || decide (k ≥ 2 ^ 63)) = false := by
      rw [decide_eq_false (by omega), decide_eq_false (by omega)] <;> rfl
    have he : its.toArray.isEmpty = xs.isEmpty := by cases r <;> rfl
    by_cases c1 : xs = [] ∨ k = 1
    · have c1' : (its.toArray.isEmpty || k == 1) = true := by
        rw [he]
        rcases c1 with e | e
        · rw [e]; rfl
        · rw [e]; simp
      exact wpAny_binaryOp_repeat_ref (T := "tuple") (U := "int") (by decide) ⟨_, ho, rfl⟩ (fun s' => typeIs_int s' k t) noFill_tuple_mul F.fills_int_mul F.slot_int_rmul repeat_tuple F.slot_int_index.lookup
        (call_meets F.slot_int_rmul (typeIs_int s k t) F.entry_int_rmul (F.args_int_rmul_2 _ _) (int_rmul_tuple k t l its.toArray n dd sl)
          ⟨ho, rfl, ⟨_, ho, rfl⟩, call_meets F.slot_tuple_mul ⟨_, ho, rfl⟩ F.entry_tuple_mul (F.args_tuple_mul_2 _ _) (NVS.tup_mul_same l its.toArray n dd sl k t c0 c1') ⟨ho, .ref l, H, I, rfl, q1 c1⟩⟩)
    · have hne : xs ≠ [] := fun e => c1 (.inl e)
      have hk1 : k ≠ 1 := fun e => c1 (.inr e)
      have hk : k ≤ 0 := by
        have : ¬ 2 ≤ k := fun z => c ⟨hne, z⟩
        omega
      have ex : xs.isEmpty = false := by cases xs with
        | nil => exact absurd rfl hne
        | cons _ _ => rfl
      have c1' : (its.toArray.isEmpty || k == 1) = false := by
        rw [he, ex, Bool.false_or]
        exact beq_eq_false_iff_ne.mpr hk1
      have c2' : (decide (k ≤ 0) || its.toArray.isEmpty) = true := by rw [decide_eq_true hk]; rfl
      refine wpAny_binaryOp_repeat_ref (T := "tuple") (U := "int") (by decide) ⟨_, ho, rfl⟩ (fun s' => typeIs_int s' k t) noFill_tuple_mul F.fills_int_mul F.slot_int_rmul repeat_tuple F.slot_int_index.lookup
        (call_meets F.slot_int_rmul (typeIs_int s k t) F.entry_int_rmul (F.args_int_rmul_2 _ _) (int_rmul_tuple k t l its.toArray n dd sl)
          ⟨ho, rfl, ⟨_, ho, rfl⟩, call_meets F.slot_tuple_mul ⟨_, ho, rfl⟩ F.entry_tuple_mul (F.args_tuple_mul_2 _ _) (NVS.tup_mul_none l its.toArray n dd sl k t c0 c1' c2') ⟨ho, ?_⟩⟩)
      refine ⟨.ref s.heap.objs.size, _, I.laid (t' := s.toks) (o := .tup []) (fun b ob q => Heap.get?_push_of_some _ q) (Nat.le_refl _) ?_, rfl, q2 hne hk _ (I.hok.fresh (Nat.le_refl _))⟩
      exact ⟨Nat.zero_le _, [], .nil, IsTup.new _ _⟩
/-- int * int, list * int, tuple * int -/
def mul3 (d e : D) : Option D := match d, e with
  | .tup xs, .int k => if -(2 ^ 62) ≤ k ∧ k ≤ 1000 ∧ xs.length ≤ 1000 then some (.tup (repL xs k)) else none
  | d, e => mulD d e
def rMul3 (K : PySem.W.Frag) : R2 := fun x y H Q => rMul2 x y H Q ∨ rRepAny K x y H Q
theorem op_mul3 {X : Cx} : OpR X (binaryOp .Mult) (rMul3 X.K) := op_mul2.or op_repAny
theorem o_mul3 {X : Cx} : OpE X mul3 (rMul3 X.K) := by
  intro B W M H ρ σ d e z x y Q rp hx hy hf h
  unfold mul3 at hf
  split at hf
  · split at hf
    · rename_i xs k hc
      cases hf
      obtain ⟨a, vs, rfl, l, h1, h2⟩ := rq_tup hx
      obtain rfl := rq_int hy
      have hl := h2.length
      refine .inr ⟨a, k, vs, rfl, rfl, h1, hc.1, hc.2.1, by omega, fun c => ?_, fun hne hk p hp => ?_, fun hne hk p hp => ?_⟩
      · have e : repL xs k = xs := by
          rcases c with c | c
          · have : xs = [] := List.eq_nil_of_length_eq_zero (by rw [hl, c]; rfl)
            subst this
            show (List.replicate k.toNat ([] : List D)).flatten = []
            generalize k.toNat = n
            induction n with
            | zero => rfl
            | succ n ih => rw [List.replicate_succ, List.flatten_cons, ih]; rfl
          · subst c
            show (List.replicate 1 xs).flatten = xs
            simp
        rw [e] at h
        exact post_v h rp (.tup l h1 h2)
      · have e : repL xs k = [] := by
          show (List.replicate k.toNat xs).flatten = []
          rw [show k.toNat = 0 by omega]
          rfl
        rw [e] at h
        exact post_t h rp .nil (Nat.zero_le _) hp
      · refine post_t h rp (h2.rep k.toNat) ?_ hp
        rw [repL_length, sizeLine_eq]
        have : xs.length * k.toNat ≤ 1000 * 1000 := Nat.mul_le_mul hc.2.2 (by omega)
        omega
    · cases hf
  · exact .inl (o_mul B W M H ρ σ _ _ z x y Q rp hx hy hf h)
end NV

set_option Elab.async false
set_option linter.all false
set_option maxRecDepth 100000
set_option maxHeartbeats 4000000
/-! Core18: sorted(set(ints)), list.count. -/
namespace NV
open PySem PySem.Spec PyProof.Rows L2
/-! ### sorted(set(e)), e a tuple of ints -/
def insU (i : Int) : List Int → List Int
  | [] => [i]
  | j :: l => if i < j then i :: j :: l else if i = j then j :: l else j :: insU i l
def sortU (l : List Int) : List Int := l.foldr insU []
theorem insU_mem (i : Int) : ∀ (l : List Int) (k : Int), k ∈ insU i l ↔ k = i ∨ k ∈ l
  | [], k => by simp [insU]
  | j :: l, k => by
    unfold insU
    split
    · simp
    · split
      · rename_i h; subst h; simp
      · rw [List.mem_cons, insU_mem i l k, List.mem_cons]
        constructor
        · rintro (h | h | h)
          · exact .inr (.inl h)
          · exact .inl h
          · exact .inr (.inr h)
        · rintro (h | h | h)
          · exact .inr (.inl h)
          · exact .inl h
          · exact .inr (.inr h)
theorem insU_sorted (i : Int) : ∀ l : List Int, l.Pairwise (· < ·) → (insU i l).Pairwise (· < ·)
  | [], _ => List.pairwise_singleton _ _
  | j :: l, h => by
    have h1 := List.pairwise_cons.mp h
    unfold insU
    split
    · rename_i q
      refine List.pairwise_cons.mpr ⟨fun y hy => ?_, h⟩
      rcases List.mem_cons.mp hy with e | hy
      · subst e; exact q
      · exact Int.lt_trans q (h1.1 y hy)
    · split
      · exact h
      · refine List.pairwise_cons.mpr ⟨fun y hy => ?_, insU_sorted i l h1.2⟩
        rcases (insU_mem i l y).mp hy with e | hy
        · subst e; omega
        · exact h1.1 y hy
theorem sortU_mem : ∀ (l : List Int) (k : Int), k ∈ sortU l ↔ k ∈ l
  | [], k => by simp [sortU]
  | i :: l, k => by
    show k ∈ insU i (sortU l) ↔ _
    rw [insU_mem, sortU_mem l k, List.mem_cons]
theorem sortU_sorted : ∀ l : List Int, (sortU l).Pairwise (· < ·)
  | [] => .nil
  | i :: l => insU_sorted i _ (sortU_sorted l)
theorem lt_unique : ∀ {l m : List Int}, l.Pairwise (· < ·) → m.Pairwise (· < ·) → (∀ k, k ∈ l ↔ k ∈ m) → l = m
  | [], [], _, _, _ => rfl
  | [], b :: m, _, _, h => by have := (h b).mpr List.mem_cons_self; cases this
  | a :: l, [], _, _, h => by have := (h a).mp List.mem_cons_self; cases this
  | a :: l, b :: m, h1, h2, h => by
    have p1 := List.pairwise_cons.mp h1
    have p2 := List.pairwise_cons.mp h2
    have e : a = b := by
      rcases List.mem_cons.mp ((h a).mp List.mem_cons_self) with e | e
      · exact e
      · rcases List.mem_cons.mp ((h b).mpr List.mem_cons_self) with e2 | e2
        · exact e2.symm
        · have := p2.1 a e; have := p1.1 b e2; omega
    subst e
    congr 1
    refine lt_unique p1.2 p2.2 fun k => ?_
    constructor
    · intro hk
      rcases List.mem_cons.mp ((h k).mp (List.mem_cons_of_mem _ hk)) with e | e
      · subst e; have := p1.1 k hk; omega
      · exact e
    · intro hk
      rcases List.mem_cons.mp ((h k).mpr (List.mem_cons_of_mem _ hk)) with e | e
      · subst e; have := p2.1 k hk; omega
      · exact e
section
variable {X : Cx} {W : WX} {a : Expr} {p p2 q pos apos cpos : Pos}
def tSortSet (K : PySem.W.Frag) (ta : TE) : TE := fun σ H Q => ta σ H fun x H1 => ∃ (l : Addr) (ns : List Int), x = .ref l ∧ SqT K H1 l (ns.map V.int) ∧ ns.length < 64 ∧ ∀ p, H1 p = none → Q (.ref p) (upd H1 p (.lst ((sortU ns).map V.int)))
theorem pe_sortSet {ta : TE} (hc : X.calm = true) (hg : Gl X "sorted") (hm : X.mg "sorted" = none) (hg2 : Gl X "set") (hm2 : X.mg "set" = none) (hv : bootBuiltins "sorted" = some (.builtin "sorted")) (ha : PE X a ta)
    (na : starEach [a] X.env = (false, eval a X.env) :: starEach [] X.env := by rfl) : PE X (.Call (.Name "sorted" p) [.Call (.Name "set" p2) [a] [] q] [] pos) (tSortSet X.K ta) := by
  refine ⟨fun pins s σ H Q I h => ?_⟩
  refine Call_ (ld_blt I hg hm hv (PyProof.Rows.callWith_builtin1 (PyProof.Rows.args_cons ?_ rfl) rfl rfl))
  refine Call_ (ld_blt I hg2 hm2 PyProof.Rows.boot_set (PyProof.Rows.callWith_type1 (PyProof.Rows.args_cons (thn (ha.run pins s σ H _ I h) fun v s1 ⟨x, H1, I1, r1, q1⟩ => PyProof.Rows.args_nil ?_) na) na rfl))
  obtain ⟨l, ns, rfl, hq, few, q1⟩ := q1
  cases r1
  obtain ⟨its, r, pl, hz⟩ := I1.tuple hq
  refine L2.call_set_tupI ns (I1.ok.hd hc) pl (intsAre_of r) (by unfold scanBound; omega) fun g k c R hc' hk => PyProof.Rows.args_nil ?_
  have I2 : Inv X pins σ H1 { s1 with heap := g, toks := k } := I1.kept hk
  refine sorted_set R (I1.ok.hd hc) (by omega) fun s' p out c2 ms kp gg o hp hat hi hs hmem hl => ?_
  have em : ms = sortU ns := lt_unique hs (sortU_sorted ns) fun z => by
    rw [hmem z, sortU_mem]
    exact decide_eq_true_iff
  subst em
  have hlen : ((sortU ns).map V.int).length ≤ sizeLine := by rw [List.length_map, hl, sizeLine_eq]; omega
  have hn : H1 p = none := I2.hok.fresh hp
  generalize hs2 : ({ s1 with heap := g, toks := k } : Shared) = s2 at *
  have J : Inv X pins σ (upd H1 p (.lst ((sortU ns).map V.int))) { s2 with heap := s'.heap, gens := s'.gens, drawn := s'.drawn, toks := s'.toks } :=
    I2.call (ch := []) (Un.laid kp hp hn) (I2.hok.laid kp hp ⟨hlen, out.toList, c2, vals_of_ints hi, hat⟩) (by rw [gg]; exact I2.bare) (fun _ z => nomatch z)
  have e : s' = { s2 with heap := s'.heap, gens := s'.gens, drawn := s'.drawn, toks := s'.toks } := by
    cases s'
    cases s2
    cases o
    rfl
  rw [e]
  exact ⟨.ref p, _, J, rfl, q1 p hn⟩
def eSortSet (m : EM) : EM := fun ρ => (m ρ).bind fun d ρ1 => match d with
  | .tup ds => (ofO (intsOf ds) ρ1).bind fun ns _ => if ns.length < 64 then .ok (.lst ((sortU ns).map D.int)) ρ1 else .bad
  | _ => .bad
theorem sortU_len (l : List Int) : (sortU l).length ≤ l.length := by
  have ins : ∀ (i : Int) (l : List Int), (insU i l).length ≤ l.length + 1 := by
    intro i l
    induction l with
    | nil => simp [insU]
    | cons j l ih =>
      unfold insU
      split
      · simp
      · split
        · simp
        · simp only [List.length_cons]; omega
  induction l with
  | nil => simp [sortU]
  | cons i l ih =>
    have := ins i (sortU l)
    show (insU i (sortU l)).length ≤ _
    rw [List.length_cons]
    omega
theorem df_sortSet {m : EM} (c : Cd X) (hg : Gl X "sorted") (hm : X.mg "sorted" = none) (hg2 : Gl X "set") (hm2 : X.mg "set" = none) (hv : bootBuiltins "sorted" = some (.builtin "sorted")) (h : DE X W a m) (na : starEach [a] X.env = (false, eval a X.env) :: starEach [] X.env := by rfl) : DF X W (.Call (.Name "sorted" p) [.Call (.Name "set" p2) [a] [] q] [] pos) (eSortSet m) := by
  obtain ⟨t, pt, s⟩ := h
  refine ⟨_, pe_sortSet c.calm hg hm hg2 hm2 hv pt na, fun B M H ρ σ Q rp k => s B M H ρ σ _ rp (Post.seq k fun d ρ1 M1 H1 v x1 r1 q1 k1 => ?_)⟩
  cases d with
  | tup ds =>
    simp only at k1
    cases e : intsOf ds with
    | none => rw [e] at k1; exact k1.elim
    | some ns =>
      rw [e] at k1
      simp only [ofO, Res.bind] at k1
      split at k1
      · rename_i hl
        cases q1 with
        | tup l h1 h2 =>
          obtain ⟨e1, _⟩ := ints_rpl (X := X) e h2
          subst e1
          exact ⟨_, ns, rfl, h1, hl, fun p hp => post_o k1 r1 (rpl_ints _) (by rw [List.length_map, sizeLine_eq]; have := sortU_len ns; omega) hp⟩
      · exact k1.elim
  | _ => exact k1.elim
/-! ### xs.count(y) -/
variable {b : Expr} {apos : Pos}
def countD (d e : D) : Option D := match d with
  | .lst ds => if okL 60 ds = true ∧ okD 60 e = true then some (.int ((ds.countP fun z => eqD z e : Nat) : Int)) else none
  | _ => none
def rCountL (K : PySem.W.Frag) : V → List V → Hp → VK → Prop := fun x xs H Q => ∃ (p : Addr) (vs : List V) (y : V) (ds : List PyData) (d : PyData), x = .ref p ∧ xs = [y] ∧ SqL K H p vs ∧ DpAll K H vs ds ∧ Dp K H y d ∧ PyData.canLayAll0 ds = true ∧ d.canLay0 = true ∧ d.depth ≤ 60 ∧ Q (.int ((ds.countP fun z => PyData.eqv z d : Nat) : Int)) H
theorem mt_count (c : Cd X) : MtR X "list.count" (rCountL X.K) := by
  intro pins s σ H x xs v us Q I rx rs h
  obtain ⟨p, vs, y, ds, d, rfl, rfl, hq, dl, dy, c1, c2, hd, q⟩ := h
  cases rx
  obtain ⟨u, rfl, ry⟩ := rs.one
  obtain ⟨its, r, pl, hz⟩ := I.list hq
  obtain ⟨as, r1⟩ := Dp.readsAll I ds vs its dl r
  obtain ⟨bs, r2⟩ := Dp.reads I d y u dy ry
  have hu : X.A.units + 1 + min (PyData.depthAll ds) d.depth < cLine := by
    have := c.units
    have h2 : min (PyData.depthAll ds) d.depth ≤ d.depth := Nat.min_le_right _ _
    omega
  exact SeqAt.count_list_data pl.isList r1 r2 (PyData.plainAll_of_canLay0 ds c1) (PyData.plain_of_canLay0 d c2) hu ⟨.int _, H, I.tok _, ⟨_, rfl⟩, q⟩
def eCount (ma mb : RM) : EM := fun ρ => (ma ρ).bind fun x ρ1 => (ofO (x.get ρ1) ρ1).bind fun d0 _ => if isLst d0 then (mb ρ1).bind fun y ρ2 => (ofO (x.get ρ2) ρ2).bind fun d _ => (ofO (y.get ρ2) ρ2).bind fun e _ => ofO (countD d e) ρ2 else .bad
theorem countP_py (d : D) (ds : List D) : ((toPyL ds).countP fun z => PyData.eqv z (toPy d)) = ds.countP fun z => eqD z d := by
  rw [toPyL_map, List.countP_map]
  rfl
theorem de_count {ma mb : RM} (c : Cd X) (ha : DR X W a ma) (hb : DR X W b mb)
    (hbase : attributeBase a "count" X.env (eval a X.env) = eval a X.env := by rfl)
    (hfew : ((backTo pos (starEach [b] X.env)).all (fun x => !x.1) && (backToKw pos (keywordEach [] X.env)).all (fun x => x.1.isSome)
      && decide (([b] : List Expr).length + ([] : List Keyword).length + (if ([] : List Keyword).isEmpty then 0 else 1) < 30)) = true := by rfl)
    (hline : (apos.endLine == pos.line) = true := by rfl) (hs : starEach [b] X.env = (false, eval b X.env) :: starEach [] X.env := by rfl) (hplain : (backTo pos (starEach ([] : List Expr) X.env)).any (·.1) = false := by rfl) :
    DE X W (.Call (.Attribute a "count" apos) [b] [] pos) (eCount ma mb) := by
  obtain ⟨ta, pa, sa⟩ := ha
  obtain ⟨tb, pb, sb⟩ := hb
  refine ⟨_, pe_bm PySem.F.plainAttrs_list PySem.F.slot_list_count PySem.F.type_list_count (mt_count c) pa (pa_cons pb pa_nil hs) hbase hfew hline hs hplain, fun B M H ρ σ Q rp k => ?_⟩
  refine sa B M H ρ σ _ rp (Post.seq k fun x ρ1 M1 H1 v x1 r1 q1 k1 => ?_)
  cases e0 : x.get ρ1 with
  | none => rw [e0] at k1; exact k1.elim
  | some d0 =>
    rw [e0] at k1
    cases d0 with
    | lst ds0 =>
      simp only [ofO, Res.bind, isLst] at k1
      obtain ⟨a0, vs0, rfl, _, hH, _⟩ := rq_lst (q1.rq Ext.refl r1 e0)
      refine ⟨.inl ⟨rfl, _, SqL.of hH⟩, ?_⟩
      refine sb B M1 H1 ρ1 σ _ r1 (Post.seq k1 fun y ρ2 M2 H2 w x2 r2 q2 k2 => ?_)
      cases ex : x.get ρ2 with
      | none => rw [ex] at k2; exact k2.elim
      | some d =>
        rw [ex] at k2
        cases ey : y.get ρ2 with
        | none => rw [ey] at k2; exact k2.elim
        | some e =>
          rw [ey] at k2
          simp only [ofO, Res.bind] at k2
          cases d with
          | lst ds =>
            by_cases hc : okL 60 ds = true ∧ okD 60 e = true
            · simp only [countD, if_pos hc] at k2
              obtain ⟨a1, vs1, e1, _, hH1, rl⟩ := rq_lst (q1.rq x2 r2 ex)
              obtain ⟨dl, c1⟩ := rl.dp 60 hc.1
              obtain ⟨dy, c2⟩ := (q2.rq Ext.refl r2 ey).dp hc.2
              refine ⟨a1, vs1, w, _, _, e1, rfl, SqL.of hH1, dl, dy, c1, c2, okD.depth 60 e hc.2, ?_⟩
              rw [countP_py]
              exact post_v k2 r2 (.int _)
            · simp only [countD, if_neg hc] at k2
              exact k2.elim
          | _ => exact k2.elim
    | _ => simp only [ofO, Res.bind, isLst] at k1; exact k1.elim
end
end NV

set_option Elab.async false
set_option linter.all false
set_option maxRecDepth 100000
set_option maxHeartbeats 4000000
/-! Ev: reckoning with the plain functions. -/
namespace NV
open PySem PySem.Spec PyProof.Rows L2
section
variable {α β : Type}
@[simp] theorem bind_ok' (a : α) (ρ : Env) (f : α → Env → Res β) : (Res.ok a ρ).bind f = f a ρ := rfl
@[simp] theorem bind_exc' (x : Exn) (ρ : Env) (f : α → Env → Res β) : (Res.exc x ρ).bind f = .exc x ρ := rfl
@[simp] theorem bind_bad' (f : α → Env → Res β) : (Res.bad).bind f = .bad := rfl
@[simp] theorem out_ok' (a : α) (ρ : Env) (f : α → Env → Out) : (Res.ok a ρ).out f = f a ρ := rfl
@[simp] theorem out_exc' (x : Exn) (ρ : Env) (f : α → Env → Out) : (Res.exc x ρ : Res α).out f = .exc x ρ := rfl
@[simp] theorem out_bad' (f : α → Env → Out) : (Res.bad : Res α).out f = .bad := rfl
@[simp] theorem ofO_some' (a : α) (ρ : Env) : ofO (some a) ρ = .ok a ρ := rfl
@[simp] theorem ofO_none' (ρ : Env) : ofO (none : Option α) ρ = .bad := rfl
@[simp] theorem noexc_ok (a : α) (ρ : Env) : (Res.ok a ρ).noexc = .ok a ρ := rfl
end
@[simp] theorem oseq_nx (ρ : Env) (f : SM) : (Out.nx ρ).seq f = f ρ := rfl
@[simp] theorem oseq_rt (d : D) (ρ : Env) (f : SM) : (Out.rt d ρ).seq f = .rt d ρ := rfl
@[simp] theorem oseq_rtF (d : D) (ρ : Env) (f : SM) : (Out.rtF d ρ).seq f = .rtF d ρ := rfl
@[simp] theorem oseq_bk (ρ : Env) (f : SM) : (Out.bk ρ).seq f = .bk ρ := rfl
@[simp] theorem oseq_ct (ρ : Env) (f : SM) : (Out.ct ρ).seq f = .ct ρ := rfl
@[simp] theorem oseq_exc (x : Exn) (ρ : Env) (f : SM) : (Out.exc x ρ).seq f = .exc x ρ := rfl
@[simp] theorem sSeq_eq (a b : SM) (ρ : Env) : sSeq a b ρ = (a ρ).seq b := rfl
@[simp] theorem sNil_eq (ρ : Env) : sNil ρ = .nx ρ := rfl
@[simp] theorem sSet_eq (i : Nat) (m : EM) (ρ : Env) : sSet i m ρ = (m ρ).out fun d ρ1 => .nx (ρ1.set i (.v d)) := rfl
@[simp] theorem sSetO_eq (i : Nat) (m : EM) (ρ : Env) : sSetO i m ρ = (m ρ).out fun d ρ1 => .nx (ρ1.set i (.o d)) := rfl
@[simp] theorem sRet_eq (m : EM) (ρ : Env) : sRet m ρ = (m ρ).out fun d ρ1 => .rt d ρ1 := rfl
@[simp] theorem sRetF_eq (m : EM) (ρ : Env) : sRetF m ρ = (m ρ).out fun d ρ1 => .rtF d ρ1 := rfl
@[simp] theorem sRetN_eq (ρ : Env) : sRetN ρ = .rt .non ρ := rfl
@[simp] theorem sIf_eq (c : TM) (a b : SM) (ρ : Env) : sIf c a b ρ = (c ρ).out fun k ρ1 => if k then a ρ1 else b ρ1 := rfl
@[simp] theorem sDrop_eq (m : EM) (ρ : Env) : sDrop m ρ = (m ρ).out fun _ ρ1 => .nx ρ1 := rfl
@[simp] theorem sFor_eq (mi : Env → Res (List D)) (g : D → Env → Option Env) (b : SM) (ρ : Env) : sFor mi g b ρ = (mi ρ).out fun ds ρ1 => forL g b ds ρ1 := rfl
@[simp] theorem eVar_eq (i : Nat) (ρ : Env) : eVar i ρ = match ρ[i]? with
  | some (.v d) => .ok d ρ
  | _ => .bad := rfl
@[simp] theorem rVar_eq (i : Nat) (ρ : Env) : rVar i ρ = match ρ[i]? with
  | some (.v d) => .ok (.val d) ρ
  | some (.o _) => .ok (.own i) ρ
  | some (.p _) => .ok (.own i) ρ
  | _ => .bad := rfl
@[simp] theorem rOf_eq (m : EM) (ρ : Env) : rOf m ρ = (m ρ).bind fun d ρ' => .ok (.val d) ρ' := rfl
@[simp] theorem eC_eq (d : D) (ρ : Env) : eC d ρ = .ok d ρ := rfl
@[simp] theorem get_val (d : D) (ρ : Env) : (RV.val d).get ρ = some d := rfl
@[simp] theorem get_own (i : Nat) (ρ : Env) : (RV.own i).get ρ = match ρ[i]? with
  | some (.o d) => some d
  | some (.p d) => some d
  | _ => none := rfl
@[simp] theorem eOp2_eq (f : D → D → Option D) (ma mb : RM) (ρ : Env) : eOp2 f ma mb ρ = (ma ρ).bind fun x ρ1 => (mb ρ1).bind fun y ρ2 => (ofO (x.get ρ2) ρ2).bind fun d _ => (ofO (y.get ρ2) ρ2).bind fun e _ => ofO (f d e) ρ2 := rfl
@[simp] theorem eChain_eq (f g : D → D → Option D) (ma mb mc : RM) (ρ : Env) : eChain f g ma mb mc ρ = (ma ρ).bind fun x ρ1 => (mb ρ1).bind fun y ρ2 => (ofO (x.get ρ2) ρ2).bind fun d _ => (ofO (y.get ρ2) ρ2).bind fun e _ =>
  (ofO (f d e) ρ2).bind fun z _ => (asB z ρ2).bind fun k _ => if k then (mc ρ2).bind fun w ρ3 => (ofO (y.get ρ3) ρ3).bind fun e' _ => (ofO (w.get ρ3) ρ3).bind fun h _ => ofO (g e' h) ρ3 else .ok (.bl false) ρ2 := rfl
@[simp] theorem tOfE_eq (m : EM) (ρ : Env) : tOfE m ρ = (m ρ).bind asB := rfl
@[simp] theorem asB_bl' (b : Bool) (ρ : Env) : asB (.bl b) ρ = .ok b ρ := rfl
@[simp] theorem tAndM_eq (ma mb : TM) (ρ : Env) : tAndM ma mb ρ = (ma ρ).bind fun k ρ1 => if k then mb ρ1 else .ok false ρ1 := rfl
@[simp] theorem tOrM_eq (ma mb : TM) (ρ : Env) : tOrM ma mb ρ = (ma ρ).bind fun k ρ1 => if k then .ok true ρ1 else mb ρ1 := rfl
@[simp] theorem tNotM_eq (ma : TM) (ρ : Env) : tNotM ma ρ = (ma ρ).bind fun k ρ1 => .ok (!k) ρ1 := rfl
@[simp] theorem tYesM_eq (ρ : Env) : tYesM ρ = .ok true ρ := rfl
@[simp] theorem eIf_eq (mc : TM) (ma mb : EM) (ρ : Env) : eIf mc ma mb ρ = (mc ρ).bind fun k ρ1 => if k then ma ρ1 else mb ρ1 := rfl
@[simp] theorem eAnd_eq (ma mb : EM) (ρ : Env) : eAnd ma mb ρ = (ma ρ).bind fun d ρ1 => (ofO (truthy d) ρ1).bind fun k _ => if k then mb ρ1 else .ok d ρ1 := rfl
@[simp] theorem eOr_eq (ma mb : EM) (ρ : Env) : eOr ma mb ρ = (ma ρ).bind fun d ρ1 => (ofO (truthy d) ρ1).bind fun k _ => if k then .ok d ρ1 else mb ρ1 := rfl
@[simp] theorem eNot_eq (ma : EM) (ρ : Env) : eNot ma ρ = (ma ρ).bind fun d ρ1 => (ofO (truthy d) ρ1).bind fun k _ => .ok (.bl (!k)) ρ1 := rfl
@[simp] theorem truthy_bl (b : Bool) : truthy (.bl b) = some b := rfl
@[simp] theorem truthy_non : truthy .non = some false := rfl
@[simp] theorem truthy_int (i : Int) : truthy (.int i) = some (i != 0) := rfl
@[simp] theorem truthy_tup (xs : List D) : truthy (.tup xs) = some (!xs.isEmpty) := rfl
@[simp] theorem truthy_lst (xs : List D) : truthy (.lst xs) = some (!xs.isEmpty) := rfl
@[simp] theorem lNil_eq (ρ : Env) : lNil ρ = .ok [] ρ := rfl
@[simp] theorem lCons_eq (m : EM) (ms : Env → Res (List D)) (ρ : Env) : lCons m ms ρ = (m ρ).bind fun d ρ1 => (ms ρ1).bind fun ds ρ2 => .ok (d :: ds) ρ2 := rfl
@[simp] theorem aNil_eq (ρ : Env) : aNil ρ = .ok [] ρ := rfl
@[simp] theorem aCons_eq (m : RM) (ms : AM) (ρ : Env) : aCons m ms ρ = (m ρ).bind fun d ρ1 => (ms ρ1).bind fun ds ρ2 => .ok (d :: ds) ρ2 := rfl
theorem sz0 : 0 ≤ sizeLine := Nat.zero_le _
@[simp] theorem eTup_eq (m : Env → Res (List D)) (ρ : Env) : eTup m ρ = (m ρ).bind fun ds ρ1 => if ds.length ≤ 16777216 then .ok (.tup ds) ρ1 else .bad := by
  unfold eTup
  rw [sizeLine_eq]
@[simp] theorem eLst_eq (m : Env → Res (List D)) (ρ : Env) : eLst m ρ = (m ρ).bind fun ds ρ1 => if ds.length ≤ 16777216 then .ok (.lst ds) ρ1 else .bad := by
  unfold eLst
  rw [sizeLine_eq]
@[simp] theorem getAll_nil (ρ : Env) : getAll ρ [] = some [] := rfl
@[simp] theorem getAll_cons (ρ : Env) (r : RV) (rs : List RV) : getAll ρ (r :: rs) = match r.get ρ, getAll ρ rs with
  | some d, some ds => some (d :: ds)
  | _, _ => none := rfl
@[simp] theorem eCallB_eq (f : List D → Option D) (ma : AM) (ρ : Env) : eCallB f ma ρ = (ma ρ).bind fun rs ρ1 => (ofO (getAll ρ1 rs) ρ1).bind fun ds _ => ofO (f ds) ρ1 := rfl
@[simp] theorem eIsT_eq (T : TyN) (m : RM) (ρ : Env) : eIsT T m ρ = (m ρ).bind fun x ρ1 => (ofO (x.get ρ1) ρ1).bind fun d _ => ofO (isT T d) ρ1 := rfl
@[simp] theorem eCall_eq (fl : List Bool) (fr : Bool) (F : List D → FRes) (ma : AM) (ρ : Env) : eCall fl fr F ma ρ = (ma ρ).bind (callG fl fr F) := rfl
@[simp] theorem iVal_eq (m : EM) (ρ : Env) : iVal m ρ = (m ρ).bind fun d ρ1 => ofO (itemsD d) ρ1 := rfl
@[simp] theorem iRange1_eq (m : EM) (ρ : Env) : iRange1 m ρ = (m ρ).bind fun d ρ1 => ofO (rng1 d) ρ1 := rfl
@[simp] theorem iRange2_eq (m1 m2 : EM) (ρ : Env) : iRange2 m1 m2 ρ = (m1 ρ).bind fun d ρ1 => (m2 ρ1).bind fun e ρ2 => ofO (rng2 d e) ρ2 := rfl
@[simp] theorem gRg1_eq (m : EM) (ρ : Env) : gRg1 m ρ = (m ρ).bind fun d ρ1 => match d with
  | .int i => .ok ((0 : Int), i) ρ1
  | _ => .bad := rfl
@[simp] theorem ownGet_eq (ρ : Env) (i : Nat) : ownGet ρ i = (RV.own i).get ρ := rfl
@[simp] theorem eComp_eq (mi : Env → Res (List D)) (g : D → Env → Option Env) (mt : TM) (me : EM) (vs : List Nat) (ρ : Env) : eComp mi g mt me vs ρ = (mi ρ).bind fun ds ρ1 => (compL g mt me vs ds [] ρ1).bind fun acc ρe => .ok (.lst acc) (backE ρ1 vs (wipeE ρe vs)) := rfl
@[simp] theorem gNm_eq (i : Nat) (d : D) (ρ : Env) : gNm i d ρ = some (ρ.set i (.v d)) := rfl
@[simp] theorem itemsD_tup (xs : List D) : itemsD (.tup xs) = some xs := rfl
@[simp] theorem itemsD_lst (xs : List D) : itemsD (.lst xs) = some xs := rfl
@[simp] theorem addD_int (i j : Int) : addD (.int i) (.int j) = some (.int (i + j)) := rfl
@[simp] theorem subD_int (i j : Int) : subD (.int i) (.int j) = some (.int (i - j)) := rfl
@[simp] theorem lt2_int (i j : Int) : lt2 (.int i) (.int j) = some (.bl (decide (i < j))) := rfl
@[simp] theorem gt2_int (i j : Int) : gt2 (.int i) (.int j) = some (.bl (decide (j < i))) := rfl
@[simp] theorem le2_int (i j : Int) : le2 (.int i) (.int j) = some (.bl (decide (i ≤ j))) := rfl
@[simp] theorem ge2_int (i j : Int) : ge2 (.int i) (.int j) = some (.bl (decide (j ≤ i))) := rfl
theorem modD_int {i j : Int} (h : 0 < j) : modD (.int i) (.int j) = some (.int (i % j)) := by
  show (if 0 < j then some (D.int (i % j)) else none) = _
  rw [if_pos h]
theorem fdivD_int {i j : Int} (h : 0 < j) (h2 : j < 1073741824) : fdivD (.int i) (.int j) = some (.int (i / j)) := by
  show (if CDiv i j then some (D.int (i / j)) else none) = _
  rw [if_pos ⟨h, h2⟩]
theorem mulD_int {i j : Int} (h : (-18446744073709551616 < i ∧ i < 18446744073709551616) ∨ (-18446744073709551616 < j ∧ j < 18446744073709551616)) : mulD (.int i) (.int j) = some (.int (i * j)) := by
  have h' : CMul i j := by unfold CMul; omega
  show (if CMul i j then some (D.int (i * j)) else none) = _
  rw [if_pos h']
theorem eqD_int (i j : Int) : eqD (.int i) (.int j) = decide (i = j) := by
  unfold eqD
  simp only [toPy, PyData.eqv]
  by_cases h : i = j <;> simp [h]
@[simp] theorem eqO_int (i j : Int) : eqO (.int i) (.int j) = some (.bl (decide (i = j))) := by
  show (if okD 60 (.int i) = true ∧ okD 60 (.int j) = true then some (D.bl (eqD (.int i) (.int j))) else none) = _
  rw [if_pos ⟨rfl, rfl⟩, eqD_int]
@[simp] theorem neO_int (i j : Int) : neO (.int i) (.int j) = some (.bl (!decide (i = j))) := by
  show (if okD 60 (.int i) = true ∧ okD 60 (.int j) = true then some (D.bl (!eqD (.int i) (.int j))) else none) = _
  rw [if_pos ⟨rfl, rfl⟩, eqD_int]
theorem eqD_bl (i j : Bool) : eqD (.bl i) (.bl j) = decide (i = j) := by
  unfold eqD
  simp only [toPy, PyData.eqv]
  cases i <;> cases j <;> rfl
@[simp] theorem eqO_bl (i j : Bool) : eqO (.bl i) (.bl j) = some (.bl (decide (i = j))) := by
  show (if okD 60 (.bl i) = true ∧ okD 60 (.bl j) = true then some (D.bl (eqD (.bl i) (.bl j))) else none) = _
  rw [if_pos ⟨rfl, rfl⟩, eqD_bl]
@[simp] theorem neO_bl (i j : Bool) : neO (.bl i) (.bl j) = some (.bl (!decide (i = j))) := by
  show (if okD 60 (.bl i) = true ∧ okD 60 (.bl j) = true then some (D.bl (!eqD (.bl i) (.bl j))) else none) = _
  rw [if_pos ⟨rfl, rfl⟩, eqD_bl]
@[simp] theorem isD_bl (d : D) (b : Bool) : isD d (.bl b) = some (.bl (isBl b d)) := rfl
@[simp] theorem isD_non (d : D) : isD d .non = some (.bl (isNon d)) := rfl
@[simp] theorem isntD_bl (d : D) (b : Bool) : isntD d (.bl b) = some (.bl (!isBl b d)) := rfl
@[simp] theorem isntD_non (d : D) : isntD d .non = some (.bl (!isNon d)) := rfl
@[simp] theorem isBl_bl (a b : Bool) : isBl b (.bl a) = decide (a = b) := by
  unfold isBl
  cases a <;> cases b <;> rfl
@[simp] theorem ixN_lit0 (n : Nat) : ixN (n + 1) 0 = some 0 := by
  unfold ixN
  simp <;> omega
/-! ### a def's answer -/
@[simp] theorem runF_eq (fl : List Bool) (n : Nat) (m : SM) (ds : List D) : runF fl n m ds = if ds.length = fl.length then match m (slotsOf fl ds ++ List.replicate (n - ds.length) .no) with
  | .nx ρ => fin fl (.ok .non) ρ
  | .rt d ρ => fin fl (.ok d) ρ
  | .rtF d ρ => fin fl (.okF d) ρ
  | .exc x ρ => fin fl (.exc x) ρ
  | _ => .bad else .bad := rfl
@[simp] theorem slots_nil (ds : List D) : slotsOf [] ds = [] := by cases ds <;> rfl
@[simp] theorem slots_v (fs : List Bool) (d : D) (ds : List D) : slotsOf (false :: fs) (d :: ds) = .v d :: slotsOf fs ds := rfl
@[simp] theorem slots_p (fs : List Bool) (d : D) (ds : List D) : slotsOf (true :: fs) (d :: ds) = .p d :: slotsOf fs ds := rfl
@[simp] theorem owns_nil (ρ : Env) : owns [] ρ = some [] := by cases ρ <;> rfl
@[simp] theorem owns_v (fs : List Bool) (s : Slot) (ρ : Env) : owns (false :: fs) (s :: ρ) = owns fs ρ := rfl
@[simp] theorem owns_p (fs : List Bool) (d : D) (ρ : Env) : owns (true :: fs) (.p d :: ρ) = (owns fs ρ).map fun ds => d :: ds := rfl
@[simp] theorem fin_eq (fl : List Bool) (f : List D → FRes) (ρ : Env) : fin fl f ρ = match owns fl ρ with
  | some os => f os
  | none => .bad := rfl
/-! ### calls -/
theorem call_val {fl : List Bool} {F : List D → FRes} {rs : List RV} {ρ : Env} {ds : List D} {r : D} (h1 : getAll ρ rs = some ds) (h2 : ownIdx fl rs = some []) (hF : F ds = .ok r []) (hl : (lent fl rs).isEmpty = true ∨ r.flat = true) : callG fl false F rs ρ = .ok r ρ := by
  unfold callG
  rw [h1, h2]
  simp only [hF]
  have e : lentOk (lent fl rs) r [] = true := by
    unfold lentOk
    rcases hl with h | h <;> simp [h]
  simp [e, upO]
theorem call_valF {fl : List Bool} {F : List D → FRes} {rs : List RV} {ρ : Env} {ds : List D} {r : D} (h1 : getAll ρ rs = some ds) (h2 : ownIdx fl rs = some []) (hF : F ds = .okF r []) (hl : (lent fl rs).isEmpty = true ∨ r.flatO = true) : callG fl true F rs ρ = .ok r ρ := by
  unfold callG
  rw [h1, h2]
  simp only [hF]
  have e : lentOkF (lent fl rs) r [] = true := by
    unfold lentOkF
    rcases hl with h | h <;> simp [h]
  simp [e, upO]
theorem call_own {fl : List Bool} {F : List D → FRes} {rs : List RV} {ρ : Env} {ds : List D} {r o : D} {i : Nat} (h1 : getAll ρ rs = some ds) (h2 : ownIdx fl rs = some [i]) (hF : F ds = .ok r [o]) (hl : lent fl rs = []) : callG fl false F rs ρ = .ok r (ownSet ρ i o) := by
  unfold callG
  rw [h1, h2]
  simp only [hF, hl]
  have e : lentOk [] r [o] = true := rfl
  simp [e, upO]
end NV

set_option Elab.async false
set_option linter.all false
set_option maxRecDepth 100000
set_option maxHeartbeats 4000000
/-! Ev2: comprehensions, loops, rows of ints. -/
namespace NV
open PySem PySem.Spec PyProof.Rows L2

/-! ### comprehensions -/
/-- nothing changes but the own slot -/
theorem comp_pure {mt : TM} {me : EM} {i : Nat} (e : Slot → Env) (hset : ∀ x y, (e x).set i y = e y) (p : D → Bool) (f : D → D) : ∀ (ds : List D), (∀ d ∈ ds, mt (e (.v d)) = .ok (p d) (e (.v d))) → (∀ d ∈ ds, p d = true → me (e (.v d)) = .ok (f d) (e (.v d))) →
    ∀ (acc : List D) (x : Slot), ∃ y, compL (gNm i) mt me [i] ds acc (e x) = .ok (acc ++ (ds.filter p).map f) (e y)
  | [], _, _, acc, x => ⟨x, by simp [compL]⟩
  | d :: ds, ht, he, acc, x => by
    have h1 := ht d List.mem_cons_self
    have ih := comp_pure e hset p f ds (fun d hd => ht d (List.mem_cons_of_mem _ hd)) (fun d hd => he d (List.mem_cons_of_mem _ hd))
    have es : (wipeE (e x) [i]).set i (.v d) = e (.v d) := by rw [show wipeE (e x) [i] = (e x).set i .no from rfl, hset, hset]
    unfold compL
    simp only [gNm_eq, es, h1, noexc_ok, bind_ok']
    cases hp : p d with
    | true =>
      simp only [if_true, he d List.mem_cons_self hp, noexc_ok, bind_ok']
      obtain ⟨y, e2⟩ := ih (acc ++ [f d]) (.v d)
      exact ⟨y, by rw [e2, List.filter_cons_of_pos hp]; simp⟩
    | false =>
      obtain ⟨y, e2⟩ := ih acc (.v d)
      refine ⟨y, ?_⟩
      simp only [Bool.false_eq_true, if_false]
      rw [e2, List.filter_cons_of_neg (by simp [hp])]
/-- a state goes along, some items are kept -/
theorem comp_some {S : Type} {mt : TM} {me : EM} {i : Nat} (e : S → Slot → Env) (hset : ∀ s x y, (e s x).set i y = e s y) : ∀ (ds : List D), (∀ s, ∀ d ∈ ds, ∃ s' b, mt (e s (.v d)) = .ok b (e s' (.v d))) → (∀ s, ∀ d ∈ ds, me (e s (.v d)) = .ok d (e s (.v d))) →
    ∀ (acc : List D) (s : S) (x : Slot), ∃ s' y out, compL (gNm i) mt me [i] ds acc (e s x) = .ok (acc ++ out) (e s' y) ∧ out.Sublist ds
  | [], _, _, acc, s, x => ⟨s, x, [], by simp [compL], .slnil⟩
  | d :: ds, ht, he, acc, s, x => by
    obtain ⟨s1, b, h1⟩ := ht s d List.mem_cons_self
    have ih := comp_some e hset ds (fun s d hd => ht s d (List.mem_cons_of_mem _ hd)) (fun s d hd => he s d (List.mem_cons_of_mem _ hd))
    have es : (wipeE (e s x) [i]).set i (.v d) = e s (.v d) := by rw [show wipeE (e s x) [i] = (e s x).set i .no from rfl, hset, hset]
    unfold compL
    simp only [gNm_eq, es, h1, noexc_ok, bind_ok']
    cases b with
    | true =>
      simp only [if_true, he s1 d List.mem_cons_self, noexc_ok, bind_ok']
      obtain ⟨s', y, out, e2, sb⟩ := ih (acc ++ [d]) s1 (.v d)
      exact ⟨s', y, d :: out, by rw [e2]; simp, sb.cons_cons _⟩
    | false =>
      obtain ⟨s', y, out, e2, sb⟩ := ih acc s1 (.v d)
      refine ⟨s', y, out, ?_, sb.cons _⟩
      simp only [Bool.false_eq_true, if_false]
      exact e2
/-! ### for -/
theorem for_inv {g : D → Env → Option Env} {body : SM} (I : Env → Prop) : ∀ (ds : List D), (∀ d ∈ ds, ∀ ρ, I ρ → ∃ ρ1 ρ2, g d ρ = some ρ1 ∧ (body ρ1 = .nx ρ2 ∨ body ρ1 = .ct ρ2) ∧ I ρ2) → ∀ ρ, I ρ → ∃ ρ', forL g body ds ρ = .nx ρ' ∧ I ρ'
  | [], _, ρ, h => ⟨ρ, rfl, h⟩
  | d :: ds, hb, ρ, h => by
    obtain ⟨ρ1, ρ2, h1, h2, h3⟩ := hb d List.mem_cons_self ρ h
    obtain ⟨ρ', h4, h5⟩ := for_inv I ds (fun d hd => hb d (List.mem_cons_of_mem _ hd)) ρ2 h3
    refine ⟨ρ', ?_, h5⟩
    unfold forL
    rw [h1]
    rcases h2 with h2 | h2
    · simp only [h2]; exact h4
    · simp only [h2]; exact h4
/-! ### rows of ints -/
def iT (l : List Int) : D := .tup (l.map .int)
theorem okL_ints (n : Nat) : ∀ l : List Int, okL n (l.map D.int) = true
  | [] => by cases n <;> rfl
  | i :: l => by
    show (okD n (.int i) && okL n (l.map D.int)) = true
    rw [okL_ints n l]
    cases n <;> rfl
theorem any_ints (k : Int) : ∀ l : List Int, anyD (.int k) (l.map D.int) = decide (k ∈ l)
  | [] => rfl
  | i :: l => by
    have ih := any_ints k l
    unfold anyD at ih ⊢
    rw [List.map_cons, List.any_cons, ih, eqD_int]
    by_cases h : i = k
    · subst h; simp
    · have h' : ¬ k = i := fun z => h z.symm
      by_cases h2 : k ∈ l <;> simp [h, h', h2]
@[simp] theorem in_ints (k : Int) (l : List Int) : inD (.int k) (.tup (l.map D.int)) = some (.bl (decide (k ∈ l))) := by
  show ((if okD 60 (.int k) = true ∧ okL 60 (l.map D.int) = true then some (anyD (.int k) (l.map D.int)) else none).map D.bl) = _
  rw [if_pos ⟨rfl, okL_ints 60 l⟩, any_ints]
  rfl
@[simp] theorem in_intsL (k : Int) (l : List Int) : inD (.int k) (.lst (l.map D.int)) = some (.bl (decide (k ∈ l))) := by
  show ((if okD 60 (.int k) = true ∧ okL 60 (l.map D.int) = true then some (anyD (.int k) (l.map D.int)) else none).map D.bl) = _
  rw [if_pos ⟨rfl, okL_ints 60 l⟩, any_ints]
  rfl
@[simp] theorem notIn_ints (k : Int) (l : List Int) : notInD (.int k) (.tup (l.map D.int)) = some (.bl (!decide (k ∈ l))) := by
  show ((if okD 60 (.int k) = true ∧ okL 60 (l.map D.int) = true then some (anyD (.int k) (l.map D.int)) else none).map fun b => D.bl (!b)) = _
  rw [if_pos ⟨rfl, okL_ints 60 l⟩, any_ints]
  rfl
theorem eqvAll_ints : ∀ l m : List Int, PyData.eqvAll (toPyL (l.map D.int)) (toPyL (m.map D.int)) = decide (l = m)
  | [], [] => by simp [toPyL, PyData.eqvAll]
  | [], _ :: _ => by simp [toPyL, PyData.eqvAll]
  | _ :: _, [] => by simp [toPyL, PyData.eqvAll]
  | i :: l, j :: m => by
    have ih := eqvAll_ints l m
    have e := eqD_int i j
    unfold eqD at e
    rw [List.map_cons, List.map_cons, toPyL, toPyL, PyData.eqvAll, e, ih]
    by_cases h : i = j <;> by_cases h2 : l = m <;> simp [h, h2]
theorem eqD_iT (l m : List Int) : eqD (.tup (l.map D.int)) (.tup (m.map D.int)) = decide (l = m) := by
  unfold eqD
  rw [toPy, toPy, PyData.eqv, eqvAll_ints]
theorem eqD_iL (l m : List Int) : eqD (.lst (l.map D.int)) (.lst (m.map D.int)) = decide (l = m) := by
  unfold eqD
  rw [toPy, toPy, PyData.eqv, eqvAll_ints]
@[simp] theorem eqO_iT (l m : List Int) : eqO (.tup (l.map D.int)) (.tup (m.map D.int)) = some (.bl (decide (l = m))) := by
  cases m with
  | nil => cases l <;> simp [eqO]
  | cons i m =>
    show (if okD 60 (.tup (l.map D.int)) = true ∧ okD 60 (.tup ((i :: m).map D.int)) = true then some (D.bl (eqD (.tup (l.map D.int)) (.tup ((i :: m).map D.int)))) else none) = _
    rw [if_pos ⟨okL_ints 59 l, okL_ints 59 (i :: m)⟩, eqD_iT]
@[simp] theorem eqO_iT0 (l : List Int) : eqO (.tup (l.map D.int)) (.tup []) = some (.bl (decide (l = []))) := eqO_iT l []
@[simp] theorem neO_iL (l m : List Int) : neO (.lst (l.map D.int)) (.lst (m.map D.int)) = some (.bl (!decide (l = m))) := by
  show (if okD 60 (.lst (l.map D.int)) = true ∧ okD 60 (.lst (m.map D.int)) = true then some (D.bl (!eqD (.lst (l.map D.int)) (.lst (m.map D.int)))) else none) = _
  rw [if_pos ⟨okL_ints 59 l, okL_ints 59 m⟩, eqD_iL]
@[simp] theorem neO_iL0 (l : List Int) : neO (.lst (l.map D.int)) (.lst []) = some (.bl (!decide (l = []))) := neO_iL l []
theorem filter_ints (l : List Int) (p : Int → Bool) (q : D → Bool) (h : ∀ i, q (.int i) = p i) : (l.map D.int).filter q = (l.filter p).map D.int := by
  induction l with
  | nil => rfl
  | cons i l ih =>
    rw [List.map_cons, List.filter_cons, List.filter_cons, h i, ih]
    cases p i <;> rfl
theorem intsOf_map : ∀ l : List Int, intsOf (l.map D.int) = some l
  | [] => rfl
  | i :: l => by
    show (intsOf (l.map D.int)).map _ = _
    rw [intsOf_map l]
    rfl
theorem sub_ints {ds : List D} {l : List Int} (h : ds.Sublist (l.map D.int)) : ∃ m : List Int, m.Sublist l ∧ ds = m.map D.int := by
  obtain ⟨m, h1, h2⟩ := List.sublist_map_iff.mp h
  exact ⟨m, h1, h2⟩
/-- the int behind a datum -/
def toI : D → Int
  | .int i => i
  | _ => 0
theorem map_toI (l : List Int) : (l.map D.int).map (fun d => D.int (toI d)) = l.map D.int := by
  rw [List.map_map]
  rfl
end NV

set_option Elab.async false
set_option linter.all false
set_option maxRecDepth 100000
set_option maxHeartbeats 4000000
namespace NV
open PySem PySem.Spec PyProof.Rows L2
def top (i : Nat) : Stmt := PySem.Challenge.pw_neversoon_k04_what_rules_are.main.body.getD i (.Pass ⟨0, 0, 0, 0⟩)
theorem bt_all : bootBuiltins "all" = some (.builtin "all") := by decide +kernel
theorem bt_bool : bootBuiltins "bool" = some (.type "bool") := by decide +kernel
theorem bt_int : bootBuiltins "int" = some (.type "int") := by decide +kernel
theorem bt_isinstance : bootBuiltins "isinstance" = some (.builtin "isinstance") := by decide +kernel
theorem bt_len : bootBuiltins "len" = some (.builtin "len") := by decide +kernel
theorem bt_list : bootBuiltins "list" = some (.type "list") := by decide +kernel
theorem bt_max : bootBuiltins "max" = some (.builtin "max") := by decide +kernel
theorem bt_min : bootBuiltins "min" = some (.builtin "min") := by decide +kernel
theorem bt_sorted : bootBuiltins "sorted" = some (.builtin "sorted") := by decide +kernel
theorem bt_str : bootBuiltins "str" = some (.type "str") := by decide +kernel
theorem bt_tuple : bootBuiltins "tuple" = some (.type "tuple") := by decide +kernel
def G_LETTERS : D := .str "abcdefghijklmnopqrstuvwxyz"
def G_MOST_LETTERS : D := .int 8
def G_MOST_MANY : D := .int 99
def G_MOST_RULES : D := .int 12
def G_MOST_SPAN : D := .int 99999
def G_MOST_WORDS : D := .int 8
def G_ONCE : D := .tup ((["fresh", "wheel"] : List Str).map D.str)
def G_WIDE : D := .tup ((["any", "fresh"] : List Str).map D.str)
/-! is_whole -/
abbrev S_is_whole : Stmt := top 1
abbrev N_is_whole : List Str := ["x"]
theorem sc_is_whole : FnScope N_is_whole ["x"] (defScope S_is_whole) := ⟨rfl, rfl, rfl, by decide +kernel, rfl, by decide +kernel, by decide +kernel⟩
def m_is_whole : SM := (sRet (eAnd (eIsT .int (rVar 0)) (eNot (eIsT .bool (rVar 0)))))
def F_is_whole : List D → FRes := runF [false] 1 m_is_whole
theorem fn_is_whole {P : Program} {w : World} {K : PySem.W.Frag} {mg : Str → Option Value} {base : Heap} {f : Addr} {fd : FuncData} (D : FnP K "is_whole" S_is_whole f fd)   (n_isinstance : mg "isinstance" = none) (n_bool : mg "bool" = none) (n_int : mg "int" = none) : FnOk P w K mg base (L2.CX P w) 1 f fd ["x"] (spF K mg [false] F_is_whole) := by
  refine fn_defD (k := 0) D sc_is_whole rfl fun cdv A outer s H E hr => ?_
  have c := cd_of (X := cxOf (L2.CX P w) P w K mg base N_is_whole "is_whole" (defScope S_is_whole) f cdv A outer s H E) hr
  have tk := takes_of (X := cxOf (L2.CX P w) P w K mg base N_is_whole "is_whole" (defScope S_is_whole) f cdv A outer s H E) (E := E) rfl rfl rfl rfl
  have nd := sc_is_whole.nd
  exact (dss_one (ds_ret (de_and (de_isT .int (dr_var (pv 0)) rfl n_isinstance rfl n_int bt_int) (de_one (de_not (de_isT .bool (dr_var (pv 0)) rfl n_isinstance rfl n_bool bt_bool))))))
theorem has_is_whole {P : Program} {w : World} {K : PySem.W.Frag} {mg : Str → Option Value} {base : Heap} {f : Addr} {fd : FuncData} (D : FnP K "is_whole" S_is_whole f fd) (g : mg "is_whole" = some (.ref f))  (n_isinstance : mg "isinstance" = none) (n_bool : mg "bool" = none) (n_int : mg "int" = none) : Has P w K mg base 1 "is_whole" [false] F_is_whole :=
  has_of D (fn_is_whole D n_isinstance n_bool n_int) g (fun _ _ _ _ _ _ us hl => match us, hl with | [_], _ => rfl)
/-! is_name -/
abbrev S_is_name : Stmt := top 6
abbrev N_is_name : List Str := ["x", "sign"]
theorem sc_is_name : FnScope N_is_name ["x"] (defScope S_is_name) := ⟨rfl, rfl, rfl, by decide +kernel, rfl, by decide +kernel, by decide +kernel⟩
def m_is_name : SM := (sRet (eAnd (eIsT .str (rVar 0)) (eAnd (eChain le2 le2 (rOf (eC (.int 1))) (rOf (eCallB lenD (aCons (rVar 0) aNil))) (rOf (eC G_MOST_LETTERS))) (eCallB allD2 (aCons (rOf (eComp (iVal (eVar 0)) (gNm 1) tYesM (eOp2 inD (rVar 1) (rOf (eC G_LETTERS))) [1])) aNil)))))
def F_is_name : List D → FRes := runF [false] 2 m_is_name
theorem fn_is_name {P : Program} {w : World} {K : PySem.W.Frag} {mg : Str → Option Value} {base : Heap} {f : Addr} {fd : FuncData} (D : FnP K "is_name" S_is_name f fd)   (v_LETTERS : Gv K mg "LETTERS" G_LETTERS) (v_MOST_LETTERS : Gv K mg "MOST_LETTERS" G_MOST_LETTERS) (n_all : mg "all" = none) (n_len : mg "len" = none) (n_isinstance : mg "isinstance" = none) (n_str : mg "str" = none) : FnOk P w K mg base (L2.CX P w) 1 f fd ["x"] (spF K mg [false] F_is_name) := by
  refine fn_defD (k := 0) D sc_is_name rfl fun cdv A outer s H E hr => ?_
  have c := cd_of (X := cxOf (L2.CX P w) P w K mg base N_is_name "is_name" (defScope S_is_name) f cdv A outer s H E) hr
  have tk := takes_of (X := cxOf (L2.CX P w) P w K mg base N_is_name "is_name" (defScope S_is_name) f cdv A outer s H E) (E := E) rfl rfl rfl rfl
  have nd := sc_is_name.nd
  exact (dss_one (ds_ret (de_and (de_isT .str (dr_var (pv 0)) rfl n_isinstance rfl n_str bt_str) (de_and (de_chain (op_le2 c) o_le2 (op_le2 c) o_le2 (dr_e de_int) (dr_e (de_callB call_len f_len rfl n_len bt_len (da_cons (dr_var (pv 0)) da_nil))) (dr_e (de_glob v_MOST_LETTERS rfl))) (de_one (de_callB (cr_all c.calm) f_all rfl n_all bt_all (da_cons (dr_e (de_f (df_comp c nd (di_val (de_var (pv 0))) (blkOk_by (N := N_is_name) (sc := defScope S_is_name) (own := [("sign", 1)]) (by decide +kernel)) (fun _ _ _ _ _ => (dg_name (i := 1) nd rfl (by first | exact Or.inl rfl | exact Or.inr rfl))) (fun _ _ _ _ _ => dts_nil) (fun _ _ _ _ _ => (de_cmp (op_in c.blk) o_in (dr_var (pv 1)) (dr_e (de_glob v_LETTERS rfl)) (by with_unfolding_all rfl)))))) da_nil)))))))
theorem has_is_name {P : Program} {w : World} {K : PySem.W.Frag} {mg : Str → Option Value} {base : Heap} {f : Addr} {fd : FuncData} (D : FnP K "is_name" S_is_name f fd) (g : mg "is_name" = some (.ref f))  (v_LETTERS : Gv K mg "LETTERS" G_LETTERS) (v_MOST_LETTERS : Gv K mg "MOST_LETTERS" G_MOST_LETTERS) (n_all : mg "all" = none) (n_len : mg "len" = none) (n_isinstance : mg "isinstance" = none) (n_str : mg "str" = none) : Has P w K mg base 1 "is_name" [false] F_is_name :=
  has_of D (fn_is_name D v_LETTERS v_MOST_LETTERS n_all n_len n_isinstance n_str) g (fun _ _ _ _ _ _ us hl => match us, hl with | [_], _ => rfl)
/-! _law_cell -/
abbrev S__law_cell : Stmt := top 21
abbrev N__law_cell : List Str := ["_law_script", "_law_k", "_law_state", "_law_cell_here"]
theorem sc__law_cell : FnScope N__law_cell ["_law_script", "_law_k"] (defScope S__law_cell) := ⟨rfl, rfl, rfl, by decide +kernel, rfl, by decide +kernel, by decide +kernel⟩
def m__law_cell : SM := (sSeq (sIf (tOfE (eOp2 lt2 (rVar 1) (rOf (eCallB lenD (aCons (rVar 0) aNil))))) (sRet (eOp2 ixD (rVar 0) (rVar 1))) sNil) (sSeq (sSet 2 (eOp2 modD (rOf (eOp2 mulD (rOf (eC (.int 60013))) (rOf (eOp2 addD (rOf (eOp2 addD (rOf (eOp2 mulD (rVar 1) (rVar 1))) (rOf (eOp2 mulD (rOf (eC (.int 5))) (rVar 1))))) (rOf (eC (.int 3))))))) (rOf (eC (.int 1000000007))))) (sSeq (sFor (iVal (eSl (rVar 0) oNo (oSome (eC (.int 4))))) (gNm 3) (sSet 2 (eOp2 modD (rOf (eOp2 addD (rOf (eOp2 mulD (rVar 2) (rOf (eC (.int 30011))))) (rVar 3))) (rOf (eC (.int 1000000007)))))) (sRet (eVar 2)))))
def F__law_cell : List D → FRes := runF [false, false] 4 m__law_cell
theorem fn__law_cell {P : Program} {w : World} {K : PySem.W.Frag} {mg : Str → Option Value} {base : Heap} {f : Addr} {fd : FuncData} (D : FnP K "_law_cell" S__law_cell f fd)   (n_len : mg "len" = none) : FnOk P w K mg base (L2.CX P w) 1 f fd ["_law_script", "_law_k"] (spF K mg [false, false] F__law_cell) := by
  refine fn_defD (k := 0) D sc__law_cell rfl fun cdv A outer s H E hr => ?_
  have c := cd_of (X := cxOf (L2.CX P w) P w K mg base N__law_cell "_law_cell" (defScope S__law_cell) f cdv A outer s H E) hr
  have tk := takes_of (X := cxOf (L2.CX P w) P w K mg base N__law_cell "_law_cell" (defScope S__law_cell) f cdv A outer s H E) (E := E) rfl rfl rfl rfl
  have nd := sc__law_cell.nd
  exact (dss_cons (ds_if (dt_cmp (op_lt2 c) o_lt2 (dr_var (pv 1)) (dr_e (de_callB call_len f_len rfl n_len bt_len (da_cons (dr_var (pv 0)) da_nil))) (by with_unfolding_all rfl)) (dss_one (ds_ret (de_ix c (dr_var (pv 0)) (dr_var (pv 1))))) dss_nil) (dss_cons (ds_set (i := 2) nd rfl (by first | exact Or.inl rfl | exact Or.inr rfl) (de_op op_mod o_mod (dr_e (de_op op_mul2 o_mul (dr_e de_int) (dr_e (de_op op_add4 o_add (dr_e (de_op op_add4 o_add (dr_e (de_op op_mul2 o_mul (dr_var (pv 1)) (dr_var (pv 1)))) (dr_e (de_op op_mul2 o_mul (dr_e de_int) (dr_var (pv 1)))))) (dr_e de_int))))) (dr_e de_int))) (dss_cons (ds_for c (passes_of rfl) (di_val (de_sl (dr_var (pv 0)) do_none (do_some de_int))) (dg_name (i := 3) nd rfl (by first | exact Or.inl rfl | exact Or.inr rfl)) (dss_one (ds_set (i := 2) nd rfl (by first | exact Or.inl rfl | exact Or.inr rfl) (de_op op_mod o_mod (dr_e (de_op op_add4 o_add (dr_e (de_op op_mul2 o_mul (dr_var (pv 2)) (dr_e de_int))) (dr_var (pv 3)))) (dr_e de_int))))) (dss_one (ds_ret (de_var (pv 2)))))))
theorem has__law_cell {P : Program} {w : World} {K : PySem.W.Frag} {mg : Str → Option Value} {base : Heap} {f : Addr} {fd : FuncData} (D : FnP K "_law_cell" S__law_cell f fd) (g : mg "_law_cell" = some (.ref f))  (n_len : mg "len" = none) : Has P w K mg base 1 "_law_cell" [false, false] F__law_cell :=
  has_of D (fn__law_cell D n_len) g (fun _ _ _ _ _ _ us hl => match us, hl with | [_, _], _ => rfl)
/-! _law_purse -/
abbrev S__law_purse : Stmt := top 22
abbrev N__law_purse : List Str := ["_law_cell_here"]
theorem sc__law_purse : FnScope N__law_purse ["_law_cell_here"] (defScope S__law_purse) := ⟨rfl, rfl, rfl, by decide +kernel, rfl, by decide +kernel, by decide +kernel⟩
def m__law_purse : SM := (sRetF (eLst (lCons (eOp2 addD (rOf (eOp2 mulD (rOf (eOp2 modD (rVar 0) (rOf (eC (.int 999999937))))) (rOf (eC (.int 7907))))) (rOf (eC (.int 4409)))) (lCons (eOp2 ixD (rOf (eLst (lCons (eC (.int 0)) (lCons (eVar 0) lNil)))) (rOf (eCallB intD (aCons (rOf (eOp2 ge2 (rVar 0) (rOf (eOp2 powD (rOf (eC (.int 10))) (rOf (eC (.int 18))))))) aNil)))) (lCons (eC (.int 0)) lNil)))))
def F__law_purse : List D → FRes := runF [false] 1 m__law_purse
theorem fn__law_purse {P : Program} {w : World} {K : PySem.W.Frag} {mg : Str → Option Value} {base : Heap} {f : Addr} {fd : FuncData} (D : FnP K "_law_purse" S__law_purse f fd)   (n_int : mg "int" = none) : FnOk P w K mg base (L2.CX P w) 1 f fd ["_law_cell_here"] (spF K mg [false] F__law_purse) := by
  refine fn_defD (k := 0) D sc__law_purse rfl fun cdv A outer s H E hr => ?_
  have c := cd_of (X := cxOf (L2.CX P w) P w K mg base N__law_purse "_law_purse" (defScope S__law_purse) f cdv A outer s H E) hr
  have tk := takes_of (X := cxOf (L2.CX P w) P w K mg base N__law_purse "_law_purse" (defScope S__law_purse) f cdv A outer s H E) (E := E) rfl rfl rfl rfl
  have nd := sc__law_purse.nd
  exact (dss_one (ds_retF (df_lst (dl_cons (de_op op_add4 o_add (dr_e (de_op op_mul2 o_mul (dr_e (de_op op_mod o_mod (dr_var (pv 0)) (dr_e de_int))) (dr_e de_int))) (dr_e de_int)) (dl_cons (de_ix c (dr_e (de_f (df_lst (dl_cons de_int (dl_cons (de_var (pv 0)) dl_nil))))) (dr_e (de_callT call_int1 f_int rfl n_int bt_int (da_cons (dr_e (de_cmp (op_ge2 c) o_ge2 (dr_var (pv 0)) (dr_e (de_op op_pow o_pow (dr_e de_int) (dr_e de_int))) (by with_unfolding_all rfl))) da_nil)))) (dl_cons de_int dl_nil))))))
theorem has__law_purse {P : Program} {w : World} {K : PySem.W.Frag} {mg : Str → Option Value} {base : Heap} {f : Addr} {fd : FuncData} (D : FnP K "_law_purse" S__law_purse f fd) (g : mg "_law_purse" = some (.ref f))  (n_int : mg "int" = none) : Has P w K mg base 1 "_law_purse" [false] F__law_purse :=
  has_of D (fn__law_purse D n_int) g (fun _ _ _ _ _ _ us hl => match us, hl with | [_], _ => rfl)
/-! _law_pick -/
abbrev S__law_pick : Stmt := top 23
abbrev N__law_pick : List Str := ["_law_purse_here", "_law_many", "_law_state", "_law_taken"]
theorem sc__law_pick : FnScope N__law_pick ["_law_purse_here", "_law_many"] (defScope S__law_pick) := ⟨rfl, rfl, rfl, by decide +kernel, rfl, by decide +kernel, by decide +kernel⟩
def m__law_pick : SM := (sSeq (sSetIx 0 (eOp2 addD (rOf (eOp2 ixD (rVar 0) (rOf (eC (.int 2))))) (rOf (eC (.int 1)))) (eC (.int 2))) (sSeq (sSet 2 (eOp2 modD (rOf (eOp2 ixD (rVar 0) (rOf (eC (.int 0))))) (rOf (eC (.int 999999937))))) (sSeq (sSetIx 0 (eOp2 addD (rOf (eOp2 mulD (rVar 2) (rOf (eOp2 addD (rOf (eOp2 modD (rVar 2) (rOf (eC (.int 30013))))) (rOf (eC (.int 20011))))))) (rOf (eOp2 mulD (rOf (eC (.int 70001))) (rOf (eOp2 ixD (rVar 0) (rOf (eC (.int 2)))))))) (eC (.int 0))) (sSeq (sIf (tOfE (eOp2 gt2 (rOf (eOp2 ixD (rVar 0) (rOf (eC (.int 1))))) (rOf (eC (.int 0))))) (sSeq (sSet 3 (eOp2 modD (rOf (eOp2 ixD (rVar 0) (rOf (eC (.int 1))))) (rVar 1))) (sSeq (sSetIx 0 (eOp2 fdivD (rOf (eOp2 ixD (rVar 0) (rOf (eC (.int 1))))) (rVar 1)) (eC (.int 1))) (sRet (eVar 3)))) sNil) (sRet (eOp2 modD (rOf (eOp2 fdivD (rOf (eOp2 modD (rOf (eOp2 ixD (rVar 0) (rOf (eC (.int 0))))) (rOf (eC (.int 999999937))))) (rOf (eC (.int 8))))) (rVar 1)))))))
def F__law_pick : List D → FRes := runF [true, false] 4 m__law_pick
theorem fn__law_pick {P : Program} {w : World} {K : PySem.W.Frag} {mg : Str → Option Value} {base : Heap} {f : Addr} {fd : FuncData} (D : FnP K "_law_pick" S__law_pick f fd)    : FnOk P w K mg base (L2.CX P w) 1 f fd ["_law_purse_here", "_law_many"] (spF K mg [true, false] F__law_pick) := by
  refine fn_defD (k := 0) D sc__law_pick rfl fun cdv A outer s H E hr => ?_
  have c := cd_of (X := cxOf (L2.CX P w) P w K mg base N__law_pick "_law_pick" (defScope S__law_pick) f cdv A outer s H E) hr
  have tk := takes_of (X := cxOf (L2.CX P w) P w K mg base N__law_pick "_law_pick" (defScope S__law_pick) f cdv A outer s H E) (E := E) rfl rfl rfl rfl
  have nd := sc__law_pick.nd
  exact (dss_cons (ds_setIx (i := 0) (pv 0) (de_op op_add4 o_add (dr_e (de_ix c (dr_var (pv 0)) (dr_e de_int))) (dr_e de_int)) de_int) (dss_cons (ds_set (i := 2) nd rfl (by first | exact Or.inl rfl | exact Or.inr rfl) (de_op op_mod o_mod (dr_e (de_ix c (dr_var (pv 0)) (dr_e de_int))) (dr_e de_int))) (dss_cons (ds_setIx (i := 0) (pv 0) (de_op op_add4 o_add (dr_e (de_op op_mul2 o_mul (dr_var (pv 2)) (dr_e (de_op op_add4 o_add (dr_e (de_op op_mod o_mod (dr_var (pv 2)) (dr_e de_int))) (dr_e de_int))))) (dr_e (de_op op_mul2 o_mul (dr_e de_int) (dr_e (de_ix c (dr_var (pv 0)) (dr_e de_int)))))) de_int) (dss_cons (ds_if (dt_cmp (op_gt2 c) o_gt2 (dr_e (de_ix c (dr_var (pv 0)) (dr_e de_int))) (dr_e de_int) (by with_unfolding_all rfl)) (dss_cons (ds_set (i := 3) nd rfl (by first | exact Or.inl rfl | exact Or.inr rfl) (de_op op_mod o_mod (dr_e (de_ix c (dr_var (pv 0)) (dr_e de_int))) (dr_var (pv 1)))) (dss_cons (ds_setIx (i := 0) (pv 0) (de_op op_fdiv o_fdiv (dr_e (de_ix c (dr_var (pv 0)) (dr_e de_int))) (dr_var (pv 1))) de_int) (dss_one (ds_ret (de_var (pv 3)))))) dss_nil) (dss_one (ds_ret (de_op op_mod o_mod (dr_e (de_op op_fdiv o_fdiv (dr_e (de_op op_mod o_mod (dr_e (de_ix c (dr_var (pv 0)) (dr_e de_int))) (dr_e de_int))) (dr_e de_int))) (dr_var (pv 1)))))))))
theorem has__law_pick {P : Program} {w : World} {K : PySem.W.Frag} {mg : Str → Option Value} {base : Heap} {f : Addr} {fd : FuncData} (D : FnP K "_law_pick" S__law_pick f fd) (g : mg "_law_pick" = some (.ref f))   : Has P w K mg base 1 "_law_pick" [true, false] F__law_pick :=
  has_of D (fn__law_pick D ) g (fun _ _ _ _ _ _ us hl => match us, hl with | [_, _], _ => rfl)
/-! _law_is_name -/
abbrev S__law_is_name : Stmt := top 28
abbrev N__law_is_name : List Str := ["_law_x", "_law_sign"]
theorem sc__law_is_name : FnScope N__law_is_name ["_law_x"] (defScope S__law_is_name) := ⟨rfl, rfl, rfl, by decide +kernel, rfl, by decide +kernel, by decide +kernel⟩
def m__law_is_name : SM := (sSeq (sIf (tOrM (tNotM (tOfE (eIsT .str (rVar 0)))) (tNotM (tOfE (eChain lt2 lt2 (rOf (eC (.int 0))) (rOf (eCallB lenD (aCons (rVar 0) aNil))) (rOf (eC (.int 9))))))) (sRet (eC (.bl false))) sNil) (sRet (eCallB allD2 (aCons (rOf (eComp (iVal (eVar 0)) (gNm 1) tYesM (eOp2 inD (rVar 1) (rOf (eC (.str "abcdefghijklmnopqrstuvwxyz")))) [1])) aNil))))
def F__law_is_name : List D → FRes := runF [false] 2 m__law_is_name
theorem fn__law_is_name {P : Program} {w : World} {K : PySem.W.Frag} {mg : Str → Option Value} {base : Heap} {f : Addr} {fd : FuncData} (D : FnP K "_law_is_name" S__law_is_name f fd)   (n_len : mg "len" = none) (n_isinstance : mg "isinstance" = none) (n_str : mg "str" = none) (n_all : mg "all" = none) : FnOk P w K mg base (L2.CX P w) 1 f fd ["_law_x"] (spF K mg [false] F__law_is_name) := by
  refine fn_defD (k := 0) D sc__law_is_name rfl fun cdv A outer s H E hr => ?_
  have c := cd_of (X := cxOf (L2.CX P w) P w K mg base N__law_is_name "_law_is_name" (defScope S__law_is_name) f cdv A outer s H E) hr
  have tk := takes_of (X := cxOf (L2.CX P w) P w K mg base N__law_is_name "_law_is_name" (defScope S__law_is_name) f cdv A outer s H E) (E := E) rfl rfl rfl rfl
  have nd := sc__law_is_name.nd
  exact (dss_cons (ds_if (dt_w (dw_or (dt_not (dt_e (de_isT .str (dr_var (pv 0)) rfl n_isinstance rfl n_str bt_str))) (dw_or1 (dt_not (dt_chain (op_lt2 c) o_lt2 (op_lt2 c) o_lt2 (dr_e de_int) (dr_e (de_callB call_len f_len rfl n_len bt_len (da_cons (dr_var (pv 0)) da_nil))) (dr_e de_int)))))) (dss_one (ds_ret de_bl)) dss_nil) (dss_one (ds_ret (de_callB (cr_all c.calm) f_all rfl n_all bt_all (da_cons (dr_e (de_f (df_comp c nd (di_val (de_var (pv 0))) (blkOk_by (N := N__law_is_name) (sc := defScope S__law_is_name) (own := [("_law_sign", 1)]) (by decide +kernel)) (fun _ _ _ _ _ => (dg_name (i := 1) nd rfl (by first | exact Or.inl rfl | exact Or.inr rfl))) (fun _ _ _ _ _ => dts_nil) (fun _ _ _ _ _ => (de_cmp (op_in c.blk) o_in (dr_var (pv 1)) (dr_e de_str) (by with_unfolding_all rfl)))))) da_nil)))))
theorem has__law_is_name {P : Program} {w : World} {K : PySem.W.Frag} {mg : Str → Option Value} {base : Heap} {f : Addr} {fd : FuncData} (D : FnP K "_law_is_name" S__law_is_name f fd) (g : mg "_law_is_name" = some (.ref f))  (n_len : mg "len" = none) (n_isinstance : mg "isinstance" = none) (n_str : mg "str" = none) (n_all : mg "all" = none) : Has P w K mg base 1 "_law_is_name" [false] F__law_is_name :=
  has_of D (fn__law_is_name D n_len n_isinstance n_str n_all) g (fun _ _ _ _ _ _ us hl => match us, hl with | [_], _ => rfl)
/-! _law_within -/
abbrev S__law_within : Stmt := top 30
abbrev N__law_within : List Str := ["_law_x", "_law_least", "_law_most"]
theorem sc__law_within : FnScope N__law_within ["_law_x", "_law_least", "_law_most"] (defScope S__law_within) := ⟨rfl, rfl, rfl, by decide +kernel, rfl, by decide +kernel, by decide +kernel⟩
def m__law_within : SM := (sRet (eAnd (eIsT .int (rVar 0)) (eAnd (eNot (eIsT .bool (rVar 0))) (eChain le2 le2 (rVar 1) (rVar 0) (rVar 2)))))
def F__law_within : List D → FRes := runF [false, false, false] 3 m__law_within
theorem fn__law_within {P : Program} {w : World} {K : PySem.W.Frag} {mg : Str → Option Value} {base : Heap} {f : Addr} {fd : FuncData} (D : FnP K "_law_within" S__law_within f fd)   (n_isinstance : mg "isinstance" = none) (n_bool : mg "bool" = none) (n_int : mg "int" = none) : FnOk P w K mg base (L2.CX P w) 1 f fd ["_law_x", "_law_least", "_law_most"] (spF K mg [false, false, false] F__law_within) := by
  refine fn_defD (k := 0) D sc__law_within rfl fun cdv A outer s H E hr => ?_
  have c := cd_of (X := cxOf (L2.CX P w) P w K mg base N__law_within "_law_within" (defScope S__law_within) f cdv A outer s H E) hr
  have tk := takes_of (X := cxOf (L2.CX P w) P w K mg base N__law_within "_law_within" (defScope S__law_within) f cdv A outer s H E) (E := E) rfl rfl rfl rfl
  have nd := sc__law_within.nd
  exact (dss_one (ds_ret (de_and (de_isT .int (dr_var (pv 0)) rfl n_isinstance rfl n_int bt_int) (de_and (de_not (de_isT .bool (dr_var (pv 0)) rfl n_isinstance rfl n_bool bt_bool)) (de_one (de_chain (op_le2 c) o_le2 (op_le2 c) o_le2 (dr_var (pv 1)) (dr_var (pv 0)) (dr_var (pv 2))))))))
theorem has__law_within {P : Program} {w : World} {K : PySem.W.Frag} {mg : Str → Option Value} {base : Heap} {f : Addr} {fd : FuncData} (D : FnP K "_law_within" S__law_within f fd) (g : mg "_law_within" = some (.ref f))  (n_isinstance : mg "isinstance" = none) (n_bool : mg "bool" = none) (n_int : mg "int" = none) : Has P w K mg base 1 "_law_within" [false, false, false] F__law_within :=
  has_of D (fn__law_within D n_isinstance n_bool n_int) g (fun _ _ _ _ _ _ us hl => match us, hl with | [_, _, _], _ => rfl)
/-! _law_fixed -/
abbrev S__law_fixed : Stmt := top 38
abbrev N__law_fixed : List Str := ["_law_found"]
theorem sc__law_fixed : FnScope N__law_fixed [] (defScope S__law_fixed) := ⟨rfl, rfl, rfl, by decide +kernel, rfl, by decide +kernel, by decide +kernel⟩
def m__law_fixed : SM := (sSeq (sSet 0 (eLst (lCons (eTup lNil) (lCons (eTup (lCons (eTup (lCons (eC (.str "song")) (lCons (eC (.int 0)) lNil))) lNil)) (lCons (eTup (lCons (eTup (lCons (eC (.str "song")) (lCons (eC (.int 100000)) lNil))) lNil)) (lCons (eTup (lCons (eTup (lCons (eC (.str "song")) (lCons (eNeg (eC (.int 1))) lNil))) lNil)) (lCons (eTup (lCons (eTup (lCons (eC (.str "singer")) (lCons (eC (.bl true)) lNil))) lNil)) lNil))))))) (sSeq (sSet 0 (eOp2 catD (rVar 0) (rOf (eLst (lCons (eTup (lCons (eTup (lCons (eC (.str "fresh")) (lCons (eC (.int 5)) lNil))) (lCons (eTup (lCons (eC (.str "fresh")) (lCons (eC (.int 5)) lNil))) lNil))) lNil))))) (sSeq (sSet 0 (eOp2 catD (rVar 0) (rOf (eLst (lCons (eTup (lCons (eTup (lCons (eC (.str "wheel")) (lCons (eTup (lCons (eC (.str "any")) lNil)) lNil))) (lCons (eTup (lCons (eC (.str "wheel")) (lCons (eTup (lCons (eC (.str "any")) lNil)) lNil))) lNil))) (lCons (eTup (lCons (eTup (lCons (eC (.str "wheel")) (lCons (eTup lNil) lNil))) lNil)) (lCons (eTup (lCons (eTup (lCons (eC (.str "wheel")) (lCons (eOp2 mul3 (rOf (eTup (lCons (eC (.str "any")) lNil))) (rOf (eC (.int 9)))) lNil))) lNil)) lNil))))))) (sSeq (sSet 0 (eOp2 catD (rVar 0) (rOf (eLst (lCons (eTup (lCons (eTup (lCons (eC (.str "wheel")) (lCons (eLst (lCons (eC (.str "any")) lNil)) lNil))) lNil)) (lCons (eTup (lCons (eTup (lCons (eC (.str "wheel")) (lCons (eC (.str "any")) lNil))) lNil)) (lCons (eTup (lCons (eTup (lCons (eC (.str "wheel")) (lCons (eTup (lCons (eLst (lCons (eC (.str "any")) lNil)) lNil)) lNil))) lNil)) lNil))))))) (sSeq (sSet 0 (eOp2 catD (rVar 0) (rOf (eLst (lCons (eTup (lCons (eTup (lCons (eC (.str "wheel")) (lCons (eTup (lCons (eC (.str "any")) (lCons (eC (.str "any")) lNil))) lNil))) lNil)) lNil))))) (sSeq (sSet 0 (eOp2 catD (rVar 0) (rOf (eLst (lCons (eTup (lCons (eTup (lCons (eC (.str "behind")) (lCons (eC (.str "any")) (lCons (eC (.str "pop")) lNil)))) lNil)) (lCons (eTup (lCons (eTup (lCons (eC (.str "behind")) (lCons (eC (.str "pop")) (lCons (eC (.str "fresh")) lNil)))) lNil)) (lCons (eTup (lCons (eTup (lCons (eC (.str "behind")) (lCons (eC (.str "pop")) lNil))) lNil)) lNil))))))) (sSeq (sSet 0 (eOp2 catD (rVar 0) (rOf (eLst (lCons (eTup (lCons (eTup (lCons (eC (.str "behind")) (lCons (eLst (lCons (eC (.str "pop")) lNil)) (lCons (eC (.str "a")) lNil)))) lNil)) lNil))))) (sSeq (sSet 0 (eOp2 catD (rVar 0) (rOf (eLst (lCons (eTup (lCons (eTup (lCons (eC (.str "never")) (lCons (eC (.str "pop")) (lCons (eTup lNil) (lCons (eC (.int 0)) (lCons (eC (.int 24)) lNil)))))) lNil)) (lCons (eTup (lCons (eTup (lCons (eC (.str "never")) (lCons (eC (.str "pop")) (lCons (eTup (lCons (eC (.int 0)) (lCons (eC (.int 0)) lNil))) (lCons (eC (.int 0)) (lCons (eC (.int 24)) lNil)))))) lNil)) lNil)))))) (sSeq (sSet 0 (eOp2 catD (rVar 0) (rOf (eLst (lCons (eTup (lCons (eTup (lCons (eC (.str "never")) (lCons (eC (.str "pop")) (lCons (eTup (lCons (eC (.int 1)) (lCons (eC (.int 0)) lNil))) (lCons (eC (.int 0)) (lCons (eC (.int 24)) lNil)))))) lNil)) lNil))))) (sSeq (sSet 0 (eOp2 catD (rVar 0) (rOf (eLst (lCons (eTup (lCons (eTup (lCons (eC (.str "never")) (lCons (eC (.str "pop")) (lCons (eTup (lCons (eC (.int 0)) (lCons (eC (.int 7)) lNil))) (lCons (eC (.int 0)) (lCons (eC (.int 24)) lNil)))))) lNil)) (lCons (eTup (lCons (eTup (lCons (eC (.str "never")) (lCons (eC (.str "pop")) (lCons (eTup (lCons (eC (.int 0)) lNil)) (lCons (eC (.int 5)) (lCons (eC (.int 5)) lNil)))))) lNil)) lNil)))))) (sSeq (sSet 0 (eOp2 catD (rVar 0) (rOf (eLst (lCons (eTup (lCons (eTup (lCons (eC (.str "never")) (lCons (eC (.str "pop")) (lCons (eTup (lCons (eC (.int 0)) lNil)) (lCons (eC (.int 0)) (lCons (eC (.int 25)) lNil)))))) lNil)) lNil))))) (sSeq (sSet 0 (eOp2 catD (rVar 0) (rOf (eLst (lCons (eTup (lCons (eTup (lCons (eC (.str "never")) (lCons (eC (.str "pop")) (lCons (eLst (lCons (eC (.int 0)) lNil)) (lCons (eC (.int 0)) (lCons (eC (.int 24)) lNil)))))) lNil)) (lCons (eTup (lCons (eTup (lCons (eC (.str "never")) (lCons (eC (.str "pop")) (lCons (eTup (lCons (eC (.bl false)) lNil)) (lCons (eC (.int 0)) (lCons (eC (.int 24)) lNil)))))) lNil)) lNil)))))) (sSeq (sSet 0 (eOp2 catD (rVar 0) (rOf (eLst (lCons (eTup (lCons (eTup (lCons (eC (.str "never")) (lCons (eC (.str "pop")) (lCons (eTup (lCons (eLst (lCons (eC (.int 0)) lNil)) lNil)) (lCons (eC (.int 0)) (lCons (eC (.int 24)) lNil)))))) lNil)) lNil))))) (sSeq (sSet 0 (eOp2 catD (rVar 0) (rOf (eLst (lCons (eTup (lCons (eTup (lCons (eC (.str "never")) (lCons (eC (.str "any")) (lCons (eTup (lCons (eC (.int 0)) lNil)) (lCons (eC (.int 0)) (lCons (eC (.int 24)) lNil)))))) lNil)) (lCons (eTup (lCons (eTup (lCons (eC (.str "never")) (lCons (eC (.str "pop")) (lCons (eTup (lCons (eC (.int 0)) (lCons (eC (.int 1)) (lCons (eC (.int 2)) (lCons (eC (.int 3)) (lCons (eC (.int 4)) (lCons (eC (.int 5)) (lCons (eC (.int 6)) lNil)))))))) (lCons (eC (.int 23)) (lCons (eC (.int 24)) lNil)))))) lNil)) lNil)))))) (sSeq (sSet 0 (eOp2 catD (rVar 0) (rOf (eLst (lCons (eTup (lCons (eTup (lCons (eC (.str "most")) (lCons (eC (.str "pop")) (lCons (eC (.int 0)) (lCons (eC (.int 9)) lNil))))) lNil)) lNil))))) (sSeq (sSet 0 (eOp2 catD (rVar 0) (rOf (eLst (lCons (eTup (lCons (eTup (lCons (eC (.str "most")) (lCons (eC (.str "pop")) (lCons (eC (.int 100)) (lCons (eC (.int 9)) lNil))))) lNil)) (lCons (eTup (lCons (eTup (lCons (eC (.str "most")) (lCons (eC (.str "pop")) (lCons (eC (.int 99)) (lCons (eC (.int 99999)) lNil))))) lNil)) (lCons (eTup (lCons (eTup (lCons (eC (.str "most")) (lCons (eC (.str "fresh")) (lCons (eC (.int 1)) (lCons (eC (.int 9)) lNil))))) lNil)) lNil))))))) (sSeq (sSet 0 (eOp2 catD (rVar 0) (rOf (eLst (lCons (eTup (lCons (eTup (lCons (eC (.str "most")) (lCons (eC (.str "pop")) (lCons (eC (.int 1)) lNil)))) lNil)) lNil))))) (sSeq (sSet 0 (eOp2 catD (rVar 0) (rOf (eLst (lCons (eOp2 mul3 (rOf (eTup (lCons (eTup (lCons (eC (.str "song")) (lCons (eC (.int 5)) lNil))) lNil))) (rOf (eC (.int 12)))) (lCons (eOp2 mul3 (rOf (eTup (lCons (eTup (lCons (eC (.str "song")) (lCons (eC (.int 5)) lNil))) lNil))) (rOf (eC (.int 13)))) (lCons (eTup (lCons (eTup (lCons (eC (.str "songs")) (lCons (eC (.int 5)) lNil))) lNil)) (lCons (eTup (lCons (eTup (lCons (eC (.str "any")) (lCons (eC (.int 5)) lNil))) lNil)) lNil)))))))) (sSeq (sSet 0 (eOp2 catD (rVar 0) (rOf (eLst (lCons (eTup (lCons (eTup (lCons (eC (.str "song")) (lCons (eC (.int 5)) (lCons (eC (.int 5)) lNil)))) lNil)) (lCons (eTup (lCons (eTup (lCons (eC (.str "song")) lNil)) lNil)) lNil)))))) (sSeq (sSet 0 (eOp2 catD (rVar 0) (rOf (eLst (lCons (eTup (lCons (eC (.str "song")) (lCons (eC (.int 5)) lNil))) (lCons (eLst (lCons (eC (.str "song")) lNil)) (lCons (eTup (lCons (eLst (lCons (eC (.str "song")) (lCons (eC (.int 5)) lNil))) lNil)) (lCons (eTup (lCons (eTup (lCons (eC (.str "song")) (lCons (eLst (lCons (eC (.int 5)) lNil)) lNil))) lNil)) (lCons (eTup (lCons (eTup (lCons (eLst (lCons (eC (.str "song")) lNil)) (lCons (eC (.int 5)) lNil))) lNil)) lNil))))))))) (sSeq (sSet 0 (eOp2 catD (rVar 0) (rOf (eLst (lCons (eTup (lCons (eTup (lCons (eC .non) (lCons (eC (.int 5)) lNil))) lNil)) (lCons (eTup (lCons (eTup (lCons (eC (.dct [])) (lCons (eC (.int 5)) lNil))) lNil)) (lCons (eTup (lCons (eTup lNil) lNil)) lNil))))))) (sSeq (sSet 0 (eOp2 catD (rVar 0) (rOf (eLst (lCons (eTup (lCons (eTup (lCons (eC (.str "song")) (lCons (eC .non) lNil))) lNil)) (lCons (eTup (lCons (eTup (lCons (eC (.str "behind")) (lCons (eC (.str "song")) (lCons (eC (.str "wheel")) lNil)))) lNil)) lNil)))))) (sRet (eOp2 catD (rVar 0) (rOf (eLst (lCons (eC .non) (lCons (eC (.bl true)) (lCons (eC (.int 0)) (lCons (eC (.str "")) (lCons (eC (.str "song 5")) (lCons (eLst lNil) (lCons (eC (.dct [])) (lCons (eTup (lCons (eC .non) lNil)) (lCons (eTup (lCons (eC (.dct [])) lNil)) lNil)))))))))))))))))))))))))))))))))))
def F__law_fixed : List D → FRes := runF [] 1 m__law_fixed
theorem fn__law_fixed {P : Program} {w : World} {K : PySem.W.Frag} {mg : Str → Option Value} {base : Heap} {f : Addr} {fd : FuncData} (D : FnP K "_law_fixed" S__law_fixed f fd)    : FnOk P w K mg base (L2.CX P w) 1 f fd [] (spF K mg [] F__law_fixed) := by
  refine fn_defD (k := 0) D sc__law_fixed rfl fun cdv A outer s H E hr => ?_
  have c := cd_of (X := cxOf (L2.CX P w) P w K mg base N__law_fixed "_law_fixed" (defScope S__law_fixed) f cdv A outer s H E) hr
  have tk := takes_of (X := cxOf (L2.CX P w) P w K mg base N__law_fixed "_law_fixed" (defScope S__law_fixed) f cdv A outer s H E) (E := E) rfl rfl rfl rfl
  have nd := sc__law_fixed.nd
  exact (dss_cons (ds_set (i := 0) nd rfl (by first | exact Or.inl rfl | exact Or.inr rfl) (de_f (df_lst (dl_cons (de_tup dl_nil) (dl_cons (de_tup (dl_cons (de_tup (dl_cons de_str (dl_cons de_int dl_nil))) dl_nil)) (dl_cons (de_tup (dl_cons (de_tup (dl_cons de_str (dl_cons de_int dl_nil))) dl_nil)) (dl_cons (de_tup (dl_cons (de_tup (dl_cons de_str (dl_cons (de_neg de_int) dl_nil))) dl_nil)) (dl_cons (de_tup (dl_cons (de_tup (dl_cons de_str (dl_cons de_bl dl_nil))) dl_nil)) dl_nil)))))))) (dss_cons (ds_set (i := 0) nd rfl (by first | exact Or.inl rfl | exact Or.inr rfl) (de_f (df_op op_cat o_cat (dr_var (pv 0)) (dr_e (de_f (df_lst (dl_cons (de_tup (dl_cons (de_tup (dl_cons de_str (dl_cons de_int dl_nil))) (dl_cons (de_tup (dl_cons de_str (dl_cons de_int dl_nil))) dl_nil))) dl_nil))))))) (dss_cons (ds_set (i := 0) nd rfl (by first | exact Or.inl rfl | exact Or.inr rfl) (de_f (df_op op_cat o_cat (dr_var (pv 0)) (dr_e (de_f (df_lst (dl_cons (de_tup (dl_cons (de_tup (dl_cons de_str (dl_cons (de_tup (dl_cons de_str dl_nil)) dl_nil))) (dl_cons (de_tup (dl_cons de_str (dl_cons (de_tup (dl_cons de_str dl_nil)) dl_nil))) dl_nil))) (dl_cons (de_tup (dl_cons (de_tup (dl_cons de_str (dl_cons (de_tup dl_nil) dl_nil))) dl_nil)) (dl_cons (de_tup (dl_cons (de_tup (dl_cons de_str (dl_cons (de_op op_mul3 o_mul3 (dr_e (de_tup (dl_cons de_str dl_nil))) (dr_e de_int)) dl_nil))) dl_nil)) dl_nil))))))))) (dss_cons (ds_set (i := 0) nd rfl (by first | exact Or.inl rfl | exact Or.inr rfl) (de_f (df_op op_cat o_cat (dr_var (pv 0)) (dr_e (de_f (df_lst (dl_cons (de_tup (dl_cons (de_tup (dl_cons de_str (dl_cons (de_f (df_lst (dl_cons de_str dl_nil))) dl_nil))) dl_nil)) (dl_cons (de_tup (dl_cons (de_tup (dl_cons de_str (dl_cons de_str dl_nil))) dl_nil)) (dl_cons (de_tup (dl_cons (de_tup (dl_cons de_str (dl_cons (de_tup (dl_cons (de_f (df_lst (dl_cons de_str dl_nil))) dl_nil)) dl_nil))) dl_nil)) dl_nil))))))))) (dss_cons (ds_set (i := 0) nd rfl (by first | exact Or.inl rfl | exact Or.inr rfl) (de_f (df_op op_cat o_cat (dr_var (pv 0)) (dr_e (de_f (df_lst (dl_cons (de_tup (dl_cons (de_tup (dl_cons de_str (dl_cons (de_tup (dl_cons de_str (dl_cons de_str dl_nil))) dl_nil))) dl_nil)) dl_nil))))))) (dss_cons (ds_set (i := 0) nd rfl (by first | exact Or.inl rfl | exact Or.inr rfl) (de_f (df_op op_cat o_cat (dr_var (pv 0)) (dr_e (de_f (df_lst (dl_cons (de_tup (dl_cons (de_tup (dl_cons de_str (dl_cons de_str (dl_cons de_str dl_nil)))) dl_nil)) (dl_cons (de_tup (dl_cons (de_tup (dl_cons de_str (dl_cons de_str (dl_cons de_str dl_nil)))) dl_nil)) (dl_cons (de_tup (dl_cons (de_tup (dl_cons de_str (dl_cons de_str dl_nil))) dl_nil)) dl_nil))))))))) (dss_cons (ds_set (i := 0) nd rfl (by first | exact Or.inl rfl | exact Or.inr rfl) (de_f (df_op op_cat o_cat (dr_var (pv 0)) (dr_e (de_f (df_lst (dl_cons (de_tup (dl_cons (de_tup (dl_cons de_str (dl_cons (de_f (df_lst (dl_cons de_str dl_nil))) (dl_cons de_str dl_nil)))) dl_nil)) dl_nil))))))) (dss_cons (ds_set (i := 0) nd rfl (by first | exact Or.inl rfl | exact Or.inr rfl) (de_f (df_op op_cat o_cat (dr_var (pv 0)) (dr_e (de_f (df_lst (dl_cons (de_tup (dl_cons (de_tup (dl_cons de_str (dl_cons de_str (dl_cons (de_tup dl_nil) (dl_cons de_int (dl_cons de_int dl_nil)))))) dl_nil)) (dl_cons (de_tup (dl_cons (de_tup (dl_cons de_str (dl_cons de_str (dl_cons (de_tup (dl_cons de_int (dl_cons de_int dl_nil))) (dl_cons de_int (dl_cons de_int dl_nil)))))) dl_nil)) dl_nil)))))))) (dss_cons (ds_set (i := 0) nd rfl (by first | exact Or.inl rfl | exact Or.inr rfl) (de_f (df_op op_cat o_cat (dr_var (pv 0)) (dr_e (de_f (df_lst (dl_cons (de_tup (dl_cons (de_tup (dl_cons de_str (dl_cons de_str (dl_cons (de_tup (dl_cons de_int (dl_cons de_int dl_nil))) (dl_cons de_int (dl_cons de_int dl_nil)))))) dl_nil)) dl_nil))))))) (dss_cons (ds_set (i := 0) nd rfl (by first | exact Or.inl rfl | exact Or.inr rfl) (de_f (df_op op_cat o_cat (dr_var (pv 0)) (dr_e (de_f (df_lst (dl_cons (de_tup (dl_cons (de_tup (dl_cons de_str (dl_cons de_str (dl_cons (de_tup (dl_cons de_int (dl_cons de_int dl_nil))) (dl_cons de_int (dl_cons de_int dl_nil)))))) dl_nil)) (dl_cons (de_tup (dl_cons (de_tup (dl_cons de_str (dl_cons de_str (dl_cons (de_tup (dl_cons de_int dl_nil)) (dl_cons de_int (dl_cons de_int dl_nil)))))) dl_nil)) dl_nil)))))))) (dss_cons (ds_set (i := 0) nd rfl (by first | exact Or.inl rfl | exact Or.inr rfl) (de_f (df_op op_cat o_cat (dr_var (pv 0)) (dr_e (de_f (df_lst (dl_cons (de_tup (dl_cons (de_tup (dl_cons de_str (dl_cons de_str (dl_cons (de_tup (dl_cons de_int dl_nil)) (dl_cons de_int (dl_cons de_int dl_nil)))))) dl_nil)) dl_nil))))))) (dss_cons (ds_set (i := 0) nd rfl (by first | exact Or.inl rfl | exact Or.inr rfl) (de_f (df_op op_cat o_cat (dr_var (pv 0)) (dr_e (de_f (df_lst (dl_cons (de_tup (dl_cons (de_tup (dl_cons de_str (dl_cons de_str (dl_cons (de_f (df_lst (dl_cons de_int dl_nil))) (dl_cons de_int (dl_cons de_int dl_nil)))))) dl_nil)) (dl_cons (de_tup (dl_cons (de_tup (dl_cons de_str (dl_cons de_str (dl_cons (de_tup (dl_cons de_bl dl_nil)) (dl_cons de_int (dl_cons de_int dl_nil)))))) dl_nil)) dl_nil)))))))) (dss_cons (ds_set (i := 0) nd rfl (by first | exact Or.inl rfl | exact Or.inr rfl) (de_f (df_op op_cat o_cat (dr_var (pv 0)) (dr_e (de_f (df_lst (dl_cons (de_tup (dl_cons (de_tup (dl_cons de_str (dl_cons de_str (dl_cons (de_tup (dl_cons (de_f (df_lst (dl_cons de_int dl_nil))) dl_nil)) (dl_cons de_int (dl_cons de_int dl_nil)))))) dl_nil)) dl_nil))))))) (dss_cons (ds_set (i := 0) nd rfl (by first | exact Or.inl rfl | exact Or.inr rfl) (de_f (df_op op_cat o_cat (dr_var (pv 0)) (dr_e (de_f (df_lst (dl_cons (de_tup (dl_cons (de_tup (dl_cons de_str (dl_cons de_str (dl_cons (de_tup (dl_cons de_int dl_nil)) (dl_cons de_int (dl_cons de_int dl_nil)))))) dl_nil)) (dl_cons (de_tup (dl_cons (de_tup (dl_cons de_str (dl_cons de_str (dl_cons (de_tup (dl_cons de_int (dl_cons de_int (dl_cons de_int (dl_cons de_int (dl_cons de_int (dl_cons de_int (dl_cons de_int dl_nil)))))))) (dl_cons de_int (dl_cons de_int dl_nil)))))) dl_nil)) dl_nil)))))))) (dss_cons (ds_set (i := 0) nd rfl (by first | exact Or.inl rfl | exact Or.inr rfl) (de_f (df_op op_cat o_cat (dr_var (pv 0)) (dr_e (de_f (df_lst (dl_cons (de_tup (dl_cons (de_tup (dl_cons de_str (dl_cons de_str (dl_cons de_int (dl_cons de_int dl_nil))))) dl_nil)) dl_nil))))))) (dss_cons (ds_set (i := 0) nd rfl (by first | exact Or.inl rfl | exact Or.inr rfl) (de_f (df_op op_cat o_cat (dr_var (pv 0)) (dr_e (de_f (df_lst (dl_cons (de_tup (dl_cons (de_tup (dl_cons de_str (dl_cons de_str (dl_cons de_int (dl_cons de_int dl_nil))))) dl_nil)) (dl_cons (de_tup (dl_cons (de_tup (dl_cons de_str (dl_cons de_str (dl_cons de_int (dl_cons de_int dl_nil))))) dl_nil)) (dl_cons (de_tup (dl_cons (de_tup (dl_cons de_str (dl_cons de_str (dl_cons de_int (dl_cons de_int dl_nil))))) dl_nil)) dl_nil))))))))) (dss_cons (ds_set (i := 0) nd rfl (by first | exact Or.inl rfl | exact Or.inr rfl) (de_f (df_op op_cat o_cat (dr_var (pv 0)) (dr_e (de_f (df_lst (dl_cons (de_tup (dl_cons (de_tup (dl_cons de_str (dl_cons de_str (dl_cons de_int dl_nil)))) dl_nil)) dl_nil))))))) (dss_cons (ds_set (i := 0) nd rfl (by first | exact Or.inl rfl | exact Or.inr rfl) (de_f (df_op op_cat o_cat (dr_var (pv 0)) (dr_e (de_f (df_lst (dl_cons (de_op op_mul3 o_mul3 (dr_e (de_tup (dl_cons (de_tup (dl_cons de_str (dl_cons de_int dl_nil))) dl_nil))) (dr_e de_int)) (dl_cons (de_op op_mul3 o_mul3 (dr_e (de_tup (dl_cons (de_tup (dl_cons de_str (dl_cons de_int dl_nil))) dl_nil))) (dr_e de_int)) (dl_cons (de_tup (dl_cons (de_tup (dl_cons de_str (dl_cons de_int dl_nil))) dl_nil)) (dl_cons (de_tup (dl_cons (de_tup (dl_cons de_str (dl_cons de_int dl_nil))) dl_nil)) dl_nil)))))))))) (dss_cons (ds_set (i := 0) nd rfl (by first | exact Or.inl rfl | exact Or.inr rfl) (de_f (df_op op_cat o_cat (dr_var (pv 0)) (dr_e (de_f (df_lst (dl_cons (de_tup (dl_cons (de_tup (dl_cons de_str (dl_cons de_int (dl_cons de_int dl_nil)))) dl_nil)) (dl_cons (de_tup (dl_cons (de_tup (dl_cons de_str dl_nil)) dl_nil)) dl_nil)))))))) (dss_cons (ds_set (i := 0) nd rfl (by first | exact Or.inl rfl | exact Or.inr rfl) (de_f (df_op op_cat o_cat (dr_var (pv 0)) (dr_e (de_f (df_lst (dl_cons (de_tup (dl_cons de_str (dl_cons de_int dl_nil))) (dl_cons (de_f (df_lst (dl_cons de_str dl_nil))) (dl_cons (de_tup (dl_cons (de_f (df_lst (dl_cons de_str (dl_cons de_int dl_nil)))) dl_nil)) (dl_cons (de_tup (dl_cons (de_tup (dl_cons de_str (dl_cons (de_f (df_lst (dl_cons de_int dl_nil))) dl_nil))) dl_nil)) (dl_cons (de_tup (dl_cons (de_tup (dl_cons (de_f (df_lst (dl_cons de_str dl_nil))) (dl_cons de_int dl_nil))) dl_nil)) dl_nil))))))))))) (dss_cons (ds_set (i := 0) nd rfl (by first | exact Or.inl rfl | exact Or.inr rfl) (de_f (df_op op_cat o_cat (dr_var (pv 0)) (dr_e (de_f (df_lst (dl_cons (de_tup (dl_cons (de_tup (dl_cons de_non (dl_cons de_int dl_nil))) dl_nil)) (dl_cons (de_tup (dl_cons (de_tup (dl_cons (de_f df_dnew) (dl_cons de_int dl_nil))) dl_nil)) (dl_cons (de_tup (dl_cons (de_tup dl_nil) dl_nil)) dl_nil))))))))) (dss_cons (ds_set (i := 0) nd rfl (by first | exact Or.inl rfl | exact Or.inr rfl) (de_f (df_op op_cat o_cat (dr_var (pv 0)) (dr_e (de_f (df_lst (dl_cons (de_tup (dl_cons (de_tup (dl_cons de_str (dl_cons de_non dl_nil))) dl_nil)) (dl_cons (de_tup (dl_cons (de_tup (dl_cons de_str (dl_cons de_str (dl_cons de_str dl_nil)))) dl_nil)) dl_nil)))))))) (dss_one (ds_ret (de_f (df_op op_cat o_cat (dr_var (pv 0)) (dr_e (de_f (df_lst (dl_cons de_non (dl_cons de_bl (dl_cons de_int (dl_cons de_str (dl_cons de_str (dl_cons (de_f (df_lst dl_nil)) (dl_cons (de_f df_dnew) (dl_cons (de_tup (dl_cons de_non dl_nil)) (dl_cons (de_tup (dl_cons (de_f df_dnew) dl_nil)) dl_nil))))))))))))))))))))))))))))))))))))))
theorem has__law_fixed {P : Program} {w : World} {K : PySem.W.Frag} {mg : Str → Option Value} {base : Heap} {f : Addr} {fd : FuncData} (D : FnP K "_law_fixed" S__law_fixed f fd) (g : mg "_law_fixed" = some (.ref f))   : Has P w K mg base 1 "_law_fixed" [] F__law_fixed :=
  has_of D (fn__law_fixed D ) g (fun _ _ _ _ _ _ us hl => match us, hl with | [], _ => rfl)
/-! is_kind -/
abbrev S_is_kind : Stmt := top 7
abbrev N_is_kind : List Str := ["x"]
theorem sc_is_kind : FnScope N_is_kind ["x"] (defScope S_is_kind) := ⟨rfl, rfl, rfl, by decide +kernel, rfl, by decide +kernel, by decide +kernel⟩
def m_is_kind : SM := (sRet (eAnd (eCall [false] false F_is_name (aCons (rVar 0) aNil)) (eOp2 notInD (rVar 0) (rOf (eC G_WIDE)))))
def F_is_kind : List D → FRes := runF [false] 1 m_is_kind
theorem fn_is_kind {P : Program} {w : World} {K : PySem.W.Frag} {mg : Str → Option Value} {base : Heap} {f : Addr} {fd : FuncData} (D : FnP K "is_kind" S_is_kind f fd)  (h_is_name : Has P w K mg base 1 "is_name" [false] F_is_name) (v_WIDE : Gv K mg "WIDE" G_WIDE) : FnOk P w K mg base (L2.CX P w) 2 f fd ["x"] (spF K mg [false] F_is_kind) := by
  refine fn_defD (k := 1) D sc_is_kind rfl fun cdv A outer s H E hr => ?_
  have c := cd_of (X := cxOf (L2.CX P w) P w K mg base N_is_kind "is_kind" (defScope S_is_kind) f cdv A outer s H E) hr
  have tk := takes_of (X := cxOf (L2.CX P w) P w K mg base N_is_kind "is_kind" (defScope S_is_kind) f cdv A outer s H E) (E := E) rfl rfl rfl rfl
  have nd := sc_is_kind.nd
  exact (dss_one (ds_ret (de_and (de_callH h_is_name hr rfl tk (da_cons (dr_var (pv 0)) da_nil) (by omega)) (de_one (de_cmp (op_notIn c) o_notIn (dr_var (pv 0)) (dr_e (de_glob v_WIDE rfl)) (by with_unfolding_all rfl))))))
theorem has_is_kind {P : Program} {w : World} {K : PySem.W.Frag} {mg : Str → Option Value} {base : Heap} {f : Addr} {fd : FuncData} (D : FnP K "is_kind" S_is_kind f fd) (g : mg "is_kind" = some (.ref f)) (h_is_name : Has P w K mg base 1 "is_name" [false] F_is_name) (v_WIDE : Gv K mg "WIDE" G_WIDE) : Has P w K mg base 2 "is_kind" [false] F_is_kind :=
  has_of D (fn_is_kind D h_is_name v_WIDE) g (fun _ _ _ _ _ _ us hl => match us, hl with | [_], _ => rfl)
/-! is_between -/
abbrev S_is_between : Stmt := top 14
abbrev N_is_between : List Str := ["x", "least", "most"]
theorem sc_is_between : FnScope N_is_between ["x", "least", "most"] (defScope S_is_between) := ⟨rfl, rfl, rfl, by decide +kernel, rfl, by decide +kernel, by decide +kernel⟩
def m_is_between : SM := (sRet (eAnd (eCall [false] false F_is_whole (aCons (rVar 0) aNil)) (eChain le2 le2 (rVar 1) (rVar 0) (rVar 2))))
def F_is_between : List D → FRes := runF [false, false, false] 3 m_is_between
theorem fn_is_between {P : Program} {w : World} {K : PySem.W.Frag} {mg : Str → Option Value} {base : Heap} {f : Addr} {fd : FuncData} (D : FnP K "is_between" S_is_between f fd)  (h_is_whole : Has P w K mg base 1 "is_whole" [false] F_is_whole)  : FnOk P w K mg base (L2.CX P w) 2 f fd ["x", "least", "most"] (spF K mg [false, false, false] F_is_between) := by
  refine fn_defD (k := 1) D sc_is_between rfl fun cdv A outer s H E hr => ?_
  have c := cd_of (X := cxOf (L2.CX P w) P w K mg base N_is_between "is_between" (defScope S_is_between) f cdv A outer s H E) hr
  have tk := takes_of (X := cxOf (L2.CX P w) P w K mg base N_is_between "is_between" (defScope S_is_between) f cdv A outer s H E) (E := E) rfl rfl rfl rfl
  have nd := sc_is_between.nd
  exact (dss_one (ds_ret (de_and (de_callH h_is_whole hr rfl tk (da_cons (dr_var (pv 0)) da_nil) (by omega)) (de_one (de_chain (op_le2 c) o_le2 (op_le2 c) o_le2 (dr_var (pv 1)) (dr_var (pv 0)) (dr_var (pv 2)))))))
theorem has_is_between {P : Program} {w : World} {K : PySem.W.Frag} {mg : Str → Option Value} {base : Heap} {f : Addr} {fd : FuncData} (D : FnP K "is_between" S_is_between f fd) (g : mg "is_between" = some (.ref f)) (h_is_whole : Has P w K mg base 1 "is_whole" [false] F_is_whole)  : Has P w K mg base 2 "is_between" [false, false, false] F_is_between :=
  has_of D (fn_is_between D h_is_whole) g (fun _ _ _ _ _ _ us hl => match us, hl with | [_, _, _], _ => rfl)
/-! _law_any_name -/
abbrev S__law_any_name : Stmt := top 24
abbrev N__law_any_name : List Str := ["_law_purse_here", "_law_words", "_law_letters", "_law_k"]
theorem sc__law_any_name : FnScope N__law_any_name ["_law_purse_here"] (defScope S__law_any_name) := ⟨rfl, rfl, rfl, by decide +kernel, rfl, by decide +kernel, by decide +kernel⟩
def m__law_any_name : SM := (sSeq (sSet 1 (eLst (lCons (eC (.str "song")) (lCons (eC (.str "singer")) (lCons (eC (.str "behind")) (lCons (eC (.str "never")) (lCons (eC (.str "most")) (lCons (eC (.str "fresh")) (lCons (eC (.str "wheel")) (lCons (eC (.str "any")) (lCons (eC (.str "turn")) (lCons (eC (.str "least")) (lCons (eC (.str "ahead")) (lCons (eC (.str "hand")) lNil)))))))))))))) (sSeq (sIf (tOfE (eOp2 eqO (rOf (eCall [true, false] false F__law_pick (aCons (rVar 0) (aCons (rOf (eC (.int 3))) aNil)))) (rOf (eC (.int 0))))) (sRet (eOp2 ixD (rVar 1) (rOf (eCall [true, false] false F__law_pick (aCons (rVar 0) (aCons (rOf (eC (.int 12))) aNil)))))) sNil) (sSeq (sSet 2 (eC (.str "abcdefghijklmnopqrstuvwxyz"))) (sRet (eJoin (eC (.str "")) (eComp (iRange1 (eOp2 addD (rOf (eC (.int 1))) (rOf (eCall [true, false] false F__law_pick (aCons (rVar 0) (aCons (rOf (eC (.int 8))) aNil)))))) (gNm 3) tYesM (eOp2 ixD (rVar 2) (rOf (eCall [true, false] false F__law_pick (aCons (rVar 0) (aCons (rOf (eC (.int 26))) aNil))))) [3]))))))
def F__law_any_name : List D → FRes := runF [true] 4 m__law_any_name
theorem fn__law_any_name {P : Program} {w : World} {K : PySem.W.Frag} {mg : Str → Option Value} {base : Heap} {f : Addr} {fd : FuncData} (D : FnP K "_law_any_name" S__law_any_name f fd)  (h__law_pick : Has P w K mg base 1 "_law_pick" [true, false] F__law_pick) (n_range : mg "range" = none) : FnOk P w K mg base (L2.CX P w) 2 f fd ["_law_purse_here"] (spF K mg [true] F__law_any_name) := by
  refine fn_defD (k := 1) D sc__law_any_name rfl fun cdv A outer s H E hr => ?_
  have c := cd_of (X := cxOf (L2.CX P w) P w K mg base N__law_any_name "_law_any_name" (defScope S__law_any_name) f cdv A outer s H E) hr
  have tk := takes_of (X := cxOf (L2.CX P w) P w K mg base N__law_any_name "_law_any_name" (defScope S__law_any_name) f cdv A outer s H E) (E := E) rfl rfl rfl rfl
  have nd := sc__law_any_name.nd
  exact (dss_cons (ds_set (i := 1) nd rfl (by first | exact Or.inl rfl | exact Or.inr rfl) (de_f (df_lst (dl_cons de_str (dl_cons de_str (dl_cons de_str (dl_cons de_str (dl_cons de_str (dl_cons de_str (dl_cons de_str (dl_cons de_str (dl_cons de_str (dl_cons de_str (dl_cons de_str (dl_cons de_str dl_nil))))))))))))))) (dss_cons (ds_if (dt_cmp (op_eq2 c) o_eq (dr_e (de_callH h__law_pick hr rfl tk (da_cons (dr_var (pv 0)) (da_cons (dr_e de_int) da_nil)) (by omega))) (dr_e de_int) (by with_unfolding_all rfl)) (dss_one (ds_ret (de_ix c (dr_var (pv 1)) (dr_e (de_callH h__law_pick hr rfl tk (da_cons (dr_var (pv 0)) (da_cons (dr_e de_int) da_nil)) (by omega)))))) dss_nil) (dss_cons (ds_set (i := 2) nd rfl (by first | exact Or.inl rfl | exact Or.inr rfl) de_str) (dss_one (ds_ret (de_join de_str (de_f (df_comp c nd (di_range1 rfl n_range (de_op op_add4 o_add (dr_e de_int) (dr_e (de_callH h__law_pick hr rfl tk (da_cons (dr_var (pv 0)) (da_cons (dr_e de_int) da_nil)) (by omega))))) (blkOk_by (N := N__law_any_name) (sc := defScope S__law_any_name) (own := [("_law_k", 3)]) (by decide +kernel)) (fun _ _ _ _ _ => (dg_name (i := 3) nd rfl (by first | exact Or.inl rfl | exact Or.inr rfl))) (fun _ _ _ _ _ => dts_nil) (fun _ _ _ _ _ => (de_ix c.blk (dr_var (pv 2)) (dr_e (de_callH h__law_pick hr rfl takes0 (da_cons (dr_var (pv 0)) (da_cons (dr_e de_int) da_nil)) (by omega)))))))))))))
theorem has__law_any_name {P : Program} {w : World} {K : PySem.W.Frag} {mg : Str → Option Value} {base : Heap} {f : Addr} {fd : FuncData} (D : FnP K "_law_any_name" S__law_any_name f fd) (g : mg "_law_any_name" = some (.ref f)) (h__law_pick : Has P w K mg base 1 "_law_pick" [true, false] F__law_pick) (n_range : mg "range" = none) : Has P w K mg base 2 "_law_any_name" [true] F__law_any_name :=
  has_of D (fn__law_any_name D h__law_pick n_range) g (fun _ _ _ _ _ _ us hl => match us, hl with | [_], _ => rfl)
/-! _law_odd -/
abbrev S__law_odd : Stmt := top 26
abbrev N__law_odd : List Str := ["_law_purse_here", "_law_thing", "_law_some"]
theorem sc__law_odd : FnScope N__law_odd ["_law_purse_here", "_law_thing"] (defScope S__law_odd) := ⟨rfl, rfl, rfl, by decide +kernel, rfl, by decide +kernel, by decide +kernel⟩
def m__law_odd : SM := (sSeq (sSet 2 (eLst (lCons (eC .non) (lCons (eC (.bl true)) (lCons (eC (.bl false)) (lCons (eC (.int 0)) (lCons (eC (.int 1)) (lCons (eNeg (eC (.int 1))) (lCons (eOp2 powD (rOf (eC (.int 10))) (rOf (eC (.int 20)))) (lCons (eC (.str "")) (lCons (eC (.str "a")) (lCons (eC (.str "any")) (lCons (eC (.str "fresh")) (lCons (eC (.str "abcdefghi")) (lCons (eC (.str "A")) (lCons (eC (.str "a b")) lNil)))))))))))))))) (sSeq (sSet 2 (eOp2 catD (rVar 2) (rOf (eLst (lCons (eC (.str "a\n")) (lCons (eTup lNil) (lCons (eLst lNil) (lCons (eC (.dct [])) lNil)))))))) (sSeq (sIf (tOfE (eIsT .int (rVar 1))) (sSet 2 (eOp2 catD (rOf (eSl (rVar 2) oNo (oSome (eC (.int 9))))) (rOf (eOp2 repD (rOf (eLst (lCons (eOp2 addD (rVar 1) (rOf (eC (.int 1)))) (lCons (eOp2 subD (rVar 1) (rOf (eC (.int 1)))) (lCons (eOp2 subD (rOf (eC (.int 0))) (rVar 1)) (lCons (eCallB strI (aCons (rVar 1) aNil)) (lCons (eTup (lCons (eVar 1) lNil)) (lCons (eLst (lCons (eVar 1) lNil)) (lCons (eDct (pCons (eC (.str "a")) (eVar 1) pNil)) lNil))))))))) (rOf (eC (.int 3))))))) sNil) (sSeq (sIf (tOfE (eIsT .str (rVar 1))) (sSeq (sSet 2 (eOp2 catD (rVar 2) (rOf (eLst (lCons (eOp2 addD (rVar 1) (rOf (eC (.str "z")))) (lCons (eSl (rVar 1) (oSome (eC (.int 1))) oNo) (lCons (eUpper (eVar 1)) (lCons (eOp2 addD (rVar 1) (rOf (eC (.str " ")))) (lCons (eOp2 addD (rOf (eC (.str "a"))) (rVar 1)) (lCons (eTup (lCons (eVar 1) lNil)) (lCons (eLst (lCons (eVar 1) lNil)) lNil))))))))))) (sSet 2 (eOp2 catD (rVar 2) (rOf (eLst (lCons (eRev (rVar 1)) lNil)))))) sNil) (sRet (eOp2 ixD (rVar 2) (rOf (eCall [true, false] false F__law_pick (aCons (rVar 0) (aCons (rOf (eCallB lenD (aCons (rVar 2) aNil))) aNil))))))))))
def F__law_odd : List D → FRes := runF [true, false] 3 m__law_odd
theorem fn__law_odd {P : Program} {w : World} {K : PySem.W.Frag} {mg : Str → Option Value} {base : Heap} {f : Addr} {fd : FuncData} (D : FnP K "_law_odd" S__law_odd f fd)  (h__law_pick : Has P w K mg base 1 "_law_pick" [true, false] F__law_pick) (n_isinstance : mg "isinstance" = none) (n_int : mg "int" = none) (n_str : mg "str" = none) (n_len : mg "len" = none) : FnOk P w K mg base (L2.CX P w) 2 f fd ["_law_purse_here", "_law_thing"] (spF K mg [true, false] F__law_odd) := by
  refine fn_defD (k := 1) D sc__law_odd rfl fun cdv A outer s H E hr => ?_
  have c := cd_of (X := cxOf (L2.CX P w) P w K mg base N__law_odd "_law_odd" (defScope S__law_odd) f cdv A outer s H E) hr
  have tk := takes_of (X := cxOf (L2.CX P w) P w K mg base N__law_odd "_law_odd" (defScope S__law_odd) f cdv A outer s H E) (E := E) rfl rfl rfl rfl
  have nd := sc__law_odd.nd
  exact (dss_cons (ds_set (i := 2) nd rfl (by first | exact Or.inl rfl | exact Or.inr rfl) (de_f (df_lst (dl_cons de_non (dl_cons de_bl (dl_cons de_bl (dl_cons de_int (dl_cons de_int (dl_cons (de_neg de_int) (dl_cons (de_op op_pow o_pow (dr_e de_int) (dr_e de_int)) (dl_cons de_str (dl_cons de_str (dl_cons de_str (dl_cons de_str (dl_cons de_str (dl_cons de_str (dl_cons de_str dl_nil))))))))))))))))) (dss_cons (ds_set (i := 2) nd rfl (by first | exact Or.inl rfl | exact Or.inr rfl) (de_f (df_op op_cat o_cat (dr_var (pv 2)) (dr_e (de_f (df_lst (dl_cons de_str (dl_cons (de_tup dl_nil) (dl_cons (de_f (df_lst dl_nil)) (dl_cons (de_f df_dnew) dl_nil)))))))))) (dss_cons (ds_if (dt_e (de_isT .int (dr_var (pv 1)) rfl n_isinstance rfl n_int bt_int)) (dss_one (ds_set (i := 2) nd rfl (by first | exact Or.inl rfl | exact Or.inr rfl) (de_f (df_op op_cat o_cat (dr_e (de_sl (dr_var (pv 2)) do_none (do_some de_int))) (dr_e (de_f (df_op op_rep o_rep (dr_e (de_f (df_lst (dl_cons (de_op op_add4 o_add (dr_var (pv 1)) (dr_e de_int)) (dl_cons (de_op op_sub o_sub (dr_var (pv 1)) (dr_e de_int)) (dl_cons (de_op op_sub o_sub (dr_e de_int) (dr_var (pv 1))) (dl_cons (de_callT call_str_int f_strI rfl n_str bt_str (da_cons (dr_var (pv 1)) da_nil)) (dl_cons (de_tup (dl_cons (de_var (pv 1)) dl_nil)) (dl_cons (de_f (df_lst (dl_cons (de_var (pv 1)) dl_nil))) (dl_cons (de_f (df_disp (dpr_cons de_str (de_var (pv 1)) dpr_nil) rfl rfl (by simp) (by decide))) dl_nil)))))))))) (dr_e de_int)))))))) dss_nil) (dss_cons (ds_if (dt_e (de_isT .str (dr_var (pv 1)) rfl n_isinstance rfl n_str bt_str)) (dss_cons (ds_set (i := 2) nd rfl (by first | exact Or.inl rfl | exact Or.inr rfl) (de_f (df_op op_cat o_cat (dr_var (pv 2)) (dr_e (de_f (df_lst (dl_cons (de_op op_add4 o_add (dr_var (pv 1)) (dr_e de_str)) (dl_cons (de_sl (dr_var (pv 1)) (do_some de_int) do_none) (dl_cons (de_upper (de_var (pv 1))) (dl_cons (de_op op_add4 o_add (dr_var (pv 1)) (dr_e de_str)) (dl_cons (de_op op_add4 o_add (dr_e de_str) (dr_var (pv 1))) (dl_cons (de_tup (dl_cons (de_var (pv 1)) dl_nil)) (dl_cons (de_f (df_lst (dl_cons (de_var (pv 1)) dl_nil))) dl_nil))))))))))))) (dss_one (ds_set (i := 2) nd rfl (by first | exact Or.inl rfl | exact Or.inr rfl) (de_f (df_op op_cat o_cat (dr_var (pv 2)) (dr_e (de_f (df_lst (dl_cons (de_rev (dr_var (pv 1))) dl_nil))))))))) dss_nil) (dss_one (ds_ret (de_ix c (dr_var (pv 2)) (dr_e (de_callH h__law_pick hr rfl tk (da_cons (dr_var (pv 0)) (da_cons (dr_e (de_callB call_len f_len rfl n_len bt_len (da_cons (dr_var (pv 2)) da_nil))) da_nil)) (by omega))))))))))
theorem has__law_odd {P : Program} {w : World} {K : PySem.W.Frag} {mg : Str → Option Value} {base : Heap} {f : Addr} {fd : FuncData} (D : FnP K "_law_odd" S__law_odd f fd) (g : mg "_law_odd" = some (.ref f)) (h__law_pick : Has P w K mg base 1 "_law_pick" [true, false] F__law_pick) (n_isinstance : mg "isinstance" = none) (n_int : mg "int" = none) (n_str : mg "str" = none) (n_len : mg "len" = none) : Has P w K mg base 2 "_law_odd" [true, false] F__law_odd :=
  has_of D (fn__law_odd D h__law_pick n_isinstance n_int n_str n_len) g (fun _ _ _ _ _ _ us hl => match us, hl with | [_, _], _ => rfl)
/-! _law_is_kind -/
abbrev S__law_is_kind : Stmt := top 29
abbrev N__law_is_kind : List Str := ["_law_x"]
theorem sc__law_is_kind : FnScope N__law_is_kind ["_law_x"] (defScope S__law_is_kind) := ⟨rfl, rfl, rfl, by decide +kernel, rfl, by decide +kernel, by decide +kernel⟩
def m__law_is_kind : SM := (sRet (eAnd (eCall [false] false F__law_is_name (aCons (rVar 0) aNil)) (eAnd (eOp2 neO (rVar 0) (rOf (eC (.str "any")))) (eOp2 neO (rVar 0) (rOf (eC (.str "fresh")))))))
def F__law_is_kind : List D → FRes := runF [false] 1 m__law_is_kind
theorem fn__law_is_kind {P : Program} {w : World} {K : PySem.W.Frag} {mg : Str → Option Value} {base : Heap} {f : Addr} {fd : FuncData} (D : FnP K "_law_is_kind" S__law_is_kind f fd)  (h__law_is_name : Has P w K mg base 1 "_law_is_name" [false] F__law_is_name)  : FnOk P w K mg base (L2.CX P w) 2 f fd ["_law_x"] (spF K mg [false] F__law_is_kind) := by
  refine fn_defD (k := 1) D sc__law_is_kind rfl fun cdv A outer s H E hr => ?_
  have c := cd_of (X := cxOf (L2.CX P w) P w K mg base N__law_is_kind "_law_is_kind" (defScope S__law_is_kind) f cdv A outer s H E) hr
  have tk := takes_of (X := cxOf (L2.CX P w) P w K mg base N__law_is_kind "_law_is_kind" (defScope S__law_is_kind) f cdv A outer s H E) (E := E) rfl rfl rfl rfl
  have nd := sc__law_is_kind.nd
  exact (dss_one (ds_ret (de_and (de_callH h__law_is_name hr rfl tk (da_cons (dr_var (pv 0)) da_nil) (by omega)) (de_and (de_cmp (op_ne2 c) o_ne (dr_var (pv 0)) (dr_e de_str) (by with_unfolding_all rfl)) (de_one (de_cmp (op_ne2 c) o_ne (dr_var (pv 0)) (dr_e de_str) (by with_unfolding_all rfl)))))))
theorem has__law_is_kind {P : Program} {w : World} {K : PySem.W.Frag} {mg : Str → Option Value} {base : Heap} {f : Addr} {fd : FuncData} (D : FnP K "_law_is_kind" S__law_is_kind f fd) (g : mg "_law_is_kind" = some (.ref f)) (h__law_is_name : Has P w K mg base 1 "_law_is_name" [false] F__law_is_name)  : Has P w K mg base 2 "_law_is_kind" [false] F__law_is_kind :=
  has_of D (fn__law_is_kind D h__law_is_name) g (fun _ _ _ _ _ _ us hl => match us, hl with | [_], _ => rfl)
/-! _law_are_days -/
abbrev S__law_are_days : Stmt := top 31
abbrev N__law_are_days : List Str := ["_law_x", "_law_day"]
theorem sc__law_are_days : FnScope N__law_are_days ["_law_x"] (defScope S__law_are_days) := ⟨rfl, rfl, rfl, by decide +kernel, rfl, by decide +kernel, by decide +kernel⟩
def m__law_are_days : SM := (sSeq (sIf (tOrM (tNotM (tOfE (eIsT .tuple (rVar 0)))) (tNotM (tOfE (eCallB allD2 (aCons (rOf (eComp (iVal (eVar 0)) (gNm 1) tYesM (eCall [false, false, false] false F__law_within (aCons (rVar 1) (aCons (rOf (eC (.int 0))) (aCons (rOf (eC (.int 6))) aNil)))) [1])) aNil))))) (sRet (eC (.bl false))) sNil) (sRet (eAnd (eOp2 neO (rVar 0) (rOf (eTup lNil))) (eOp2 eqO (rOf (eCallB listD (aCons (rVar 0) aNil))) (rOf (eSortSet (eVar 0)))))))
def F__law_are_days : List D → FRes := runF [false] 2 m__law_are_days
theorem fn__law_are_days {P : Program} {w : World} {K : PySem.W.Frag} {mg : Str → Option Value} {base : Heap} {f : Addr} {fd : FuncData} (D : FnP K "_law_are_days" S__law_are_days f fd)  (h__law_within : Has P w K mg base 1 "_law_within" [false, false, false] F__law_within) (n_all : mg "all" = none) (n_isinstance : mg "isinstance" = none) (n_tuple : mg "tuple" = none) (n_list : mg "list" = none) (n_sorted : mg "sorted" = none) (n_set : mg "set" = none) : FnOk P w K mg base (L2.CX P w) 2 f fd ["_law_x"] (spF K mg [false] F__law_are_days) := by
  refine fn_defD (k := 1) D sc__law_are_days rfl fun cdv A outer s H E hr => ?_
  have c := cd_of (X := cxOf (L2.CX P w) P w K mg base N__law_are_days "_law_are_days" (defScope S__law_are_days) f cdv A outer s H E) hr
  have tk := takes_of (X := cxOf (L2.CX P w) P w K mg base N__law_are_days "_law_are_days" (defScope S__law_are_days) f cdv A outer s H E) (E := E) rfl rfl rfl rfl
  have nd := sc__law_are_days.nd
  exact (dss_cons (ds_if (dt_w (dw_or (dt_not (dt_e (de_isT .tuple (dr_var (pv 0)) rfl n_isinstance rfl n_tuple bt_tuple))) (dw_or1 (dt_not (dt_e (de_callB (cr_all c.calm) f_all rfl n_all bt_all (da_cons (dr_e (de_f (df_comp c nd (di_val (de_var (pv 0))) (blkOk_by (N := N__law_are_days) (sc := defScope S__law_are_days) (own := [("_law_day", 1)]) (by decide +kernel)) (fun _ _ _ _ _ => (dg_name (i := 1) nd rfl (by first | exact Or.inl rfl | exact Or.inr rfl))) (fun _ _ _ _ _ => dts_nil) (fun _ _ _ _ _ => (de_callH h__law_within hr rfl takes0 (da_cons (dr_var (pv 1)) (da_cons (dr_e de_int) (da_cons (dr_e de_int) da_nil))) (by omega)))))) da_nil))))))) (dss_one (ds_ret de_bl)) dss_nil) (dss_one (ds_ret (de_and (de_cmp (op_ne2 c) o_ne (dr_var (pv 0)) (dr_e (de_tup dl_nil)) (by with_unfolding_all rfl)) (de_one (de_cmp (op_eq2 c) o_eq (dr_e (de_f (df_callT call_list_of f_list rfl n_list bt_list (da_cons (dr_var (pv 0)) da_nil)))) (dr_e (de_f (df_sortSet c rfl n_sorted rfl n_set bt_sorted (de_var (pv 0))))) (by with_unfolding_all rfl)))))))
theorem has__law_are_days {P : Program} {w : World} {K : PySem.W.Frag} {mg : Str → Option Value} {base : Heap} {f : Addr} {fd : FuncData} (D : FnP K "_law_are_days" S__law_are_days f fd) (g : mg "_law_are_days" = some (.ref f)) (h__law_within : Has P w K mg base 1 "_law_within" [false, false, false] F__law_within) (n_all : mg "all" = none) (n_isinstance : mg "isinstance" = none) (n_tuple : mg "tuple" = none) (n_list : mg "list" = none) (n_sorted : mg "sorted" = none) (n_set : mg "set" = none) : Has P w K mg base 2 "_law_are_days" [false] F__law_are_days :=
  has_of D (fn__law_are_days D h__law_within n_all n_isinstance n_tuple n_list n_sorted n_set) g (fun _ _ _ _ _ _ us hl => match us, hl with | [_], _ => rfl)
/-! _law_number -/
abbrev S__law_number : Stmt := top 34
abbrev N__law_number : List Str := ["_law_purse_here", "_law_least", "_law_most", "_law_some"]
theorem sc__law_number : FnScope N__law_number ["_law_purse_here", "_law_least", "_law_most"] (defScope S__law_number) := ⟨rfl, rfl, rfl, by decide +kernel, rfl, by decide +kernel, by decide +kernel⟩
def m__law_number : SM := (sSeq (sSet 3 (eLst (lCons (eVar 1) (lCons (eVar 2) (lCons (eOp2 addD (rVar 1) (rOf (eC (.int 1)))) (lCons (eOp2 subD (rVar 2) (rOf (eC (.int 1)))) lNil)))))) (sRet (eOp2 ixD (rOf (eOp2 catD (rVar 3) (rOf (eOp2 repD (rOf (eLst (lCons (eOp2 addD (rVar 1) (rOf (eCall [true, false] false F__law_pick (aCons (rVar 0) (aCons (rOf (eOp2 addD (rOf (eOp2 subD (rVar 2) (rVar 1))) (rOf (eC (.int 1))))) aNil))))) lNil))) (rOf (eC (.int 4))))))) (rOf (eCall [true, false] false F__law_pick (aCons (rVar 0) (aCons (rOf (eC (.int 8))) aNil)))))))
def F__law_number : List D → FRes := runF [true, false, false] 4 m__law_number
theorem fn__law_number {P : Program} {w : World} {K : PySem.W.Frag} {mg : Str → Option Value} {base : Heap} {f : Addr} {fd : FuncData} (D : FnP K "_law_number" S__law_number f fd)  (h__law_pick : Has P w K mg base 1 "_law_pick" [true, false] F__law_pick)  : FnOk P w K mg base (L2.CX P w) 2 f fd ["_law_purse_here", "_law_least", "_law_most"] (spF K mg [true, false, false] F__law_number) := by
  refine fn_defD (k := 1) D sc__law_number rfl fun cdv A outer s H E hr => ?_
  have c := cd_of (X := cxOf (L2.CX P w) P w K mg base N__law_number "_law_number" (defScope S__law_number) f cdv A outer s H E) hr
  have tk := takes_of (X := cxOf (L2.CX P w) P w K mg base N__law_number "_law_number" (defScope S__law_number) f cdv A outer s H E) (E := E) rfl rfl rfl rfl
  have nd := sc__law_number.nd
  exact (dss_cons (ds_set (i := 3) nd rfl (by first | exact Or.inl rfl | exact Or.inr rfl) (de_f (df_lst (dl_cons (de_var (pv 1)) (dl_cons (de_var (pv 2)) (dl_cons (de_op op_add4 o_add (dr_var (pv 1)) (dr_e de_int)) (dl_cons (de_op op_sub o_sub (dr_var (pv 2)) (dr_e de_int)) dl_nil))))))) (dss_one (ds_ret (de_ix c (dr_e (de_f (df_op op_cat o_cat (dr_var (pv 3)) (dr_e (de_f (df_op op_rep o_rep (dr_e (de_f (df_lst (dl_cons (de_op op_add4 o_add (dr_var (pv 1)) (dr_e (de_callH h__law_pick hr rfl tk (da_cons (dr_var (pv 0)) (da_cons (dr_e (de_op op_add4 o_add (dr_e (de_op op_sub o_sub (dr_var (pv 2)) (dr_var (pv 1)))) (dr_e de_int))) da_nil)) (by omega)))) dl_nil)))) (dr_e de_int))))))) (dr_e (de_callH h__law_pick hr rfl tk (da_cons (dr_var (pv 0)) (da_cons (dr_e de_int) da_nil)) (by omega)))))))
theorem has__law_number {P : Program} {w : World} {K : PySem.W.Frag} {mg : Str → Option Value} {base : Heap} {f : Addr} {fd : FuncData} (D : FnP K "_law_number" S__law_number f fd) (g : mg "_law_number" = some (.ref f)) (h__law_pick : Has P w K mg base 1 "_law_pick" [true, false] F__law_pick)  : Has P w K mg base 2 "_law_number" [true, false, false] F__law_number :=
  has_of D (fn__law_number D h__law_pick) g (fun _ _ _ _ _ _ us hl => match us, hl with | [_, _, _], _ => rfl)
/-! are_words -/
abbrev S_are_words : Stmt := top 15
abbrev N_are_words : List Str := ["x", "word"]
theorem sc_are_words : FnScope N_are_words ["x"] (defScope S_are_words) := ⟨rfl, rfl, rfl, by decide +kernel, rfl, by decide +kernel, by decide +kernel⟩
def m_are_words : SM := (sSeq (sIf (tOrM (tNotM (tOfE (eIsT .tuple (rVar 0)))) (tNotM (tOfE (eChain le2 le2 (rOf (eC (.int 1))) (rOf (eCallB lenD (aCons (rVar 0) aNil))) (rOf (eC G_MOST_WORDS)))))) (sRet (eC (.bl false))) sNil) (sRet (eCallB allD2 (aCons (rOf (eComp (iVal (eVar 0)) (gNm 1) tYesM (eOr (eCall [false] false F_is_kind (aCons (rVar 1) aNil)) (eAnd (eIsT .str (rVar 1)) (eOp2 inD (rVar 1) (rOf (eC G_WIDE))))) [1])) aNil))))
def F_are_words : List D → FRes := runF [false] 2 m_are_words
theorem fn_are_words {P : Program} {w : World} {K : PySem.W.Frag} {mg : Str → Option Value} {base : Heap} {f : Addr} {fd : FuncData} (D : FnP K "are_words" S_are_words f fd)  (h_is_kind : Has P w K mg base 2 "is_kind" [false] F_is_kind) (v_MOST_WORDS : Gv K mg "MOST_WORDS" G_MOST_WORDS) (v_WIDE : Gv K mg "WIDE" G_WIDE) (n_len : mg "len" = none) (n_isinstance : mg "isinstance" = none) (n_tuple : mg "tuple" = none) (n_str : mg "str" = none) (n_all : mg "all" = none) : FnOk P w K mg base (L2.CX P w) 3 f fd ["x"] (spF K mg [false] F_are_words) := by
  refine fn_defD (k := 2) D sc_are_words rfl fun cdv A outer s H E hr => ?_
  have c := cd_of (X := cxOf (L2.CX P w) P w K mg base N_are_words "are_words" (defScope S_are_words) f cdv A outer s H E) hr
  have tk := takes_of (X := cxOf (L2.CX P w) P w K mg base N_are_words "are_words" (defScope S_are_words) f cdv A outer s H E) (E := E) rfl rfl rfl rfl
  have nd := sc_are_words.nd
  exact (dss_cons (ds_if (dt_w (dw_or (dt_not (dt_e (de_isT .tuple (dr_var (pv 0)) rfl n_isinstance rfl n_tuple bt_tuple))) (dw_or1 (dt_not (dt_chain (op_le2 c) o_le2 (op_le2 c) o_le2 (dr_e de_int) (dr_e (de_callB call_len f_len rfl n_len bt_len (da_cons (dr_var (pv 0)) da_nil))) (dr_e (de_glob v_MOST_WORDS rfl))))))) (dss_one (ds_ret de_bl)) dss_nil) (dss_one (ds_ret (de_callB (cr_all c.calm) f_all rfl n_all bt_all (da_cons (dr_e (de_f (df_comp c nd (di_val (de_var (pv 0))) (blkOk_by (N := N_are_words) (sc := defScope S_are_words) (own := [("word", 1)]) (by decide +kernel)) (fun _ _ _ _ _ => (dg_name (i := 1) nd rfl (by first | exact Or.inl rfl | exact Or.inr rfl))) (fun _ _ _ _ _ => dts_nil) (fun _ _ _ _ _ => (de_or (de_callH h_is_kind hr rfl takes0 (da_cons (dr_var (pv 1)) da_nil) (by omega)) (de_one (de_and (de_isT .str (dr_var (pv 1)) rfl n_isinstance rfl n_str bt_str) (de_one (de_cmp (op_in c.blk) o_in (dr_var (pv 1)) (dr_e (de_glob v_WIDE rfl)) (by with_unfolding_all rfl)))))))))) da_nil)))))
theorem has_are_words {P : Program} {w : World} {K : PySem.W.Frag} {mg : Str → Option Value} {base : Heap} {f : Addr} {fd : FuncData} (D : FnP K "are_words" S_are_words f fd) (g : mg "are_words" = some (.ref f)) (h_is_kind : Has P w K mg base 2 "is_kind" [false] F_is_kind) (v_MOST_WORDS : Gv K mg "MOST_WORDS" G_MOST_WORDS) (v_WIDE : Gv K mg "WIDE" G_WIDE) (n_len : mg "len" = none) (n_isinstance : mg "isinstance" = none) (n_tuple : mg "tuple" = none) (n_str : mg "str" = none) (n_all : mg "all" = none) : Has P w K mg base 3 "are_words" [false] F_are_words :=
  has_of D (fn_are_words D h_is_kind v_MOST_WORDS v_WIDE n_len n_isinstance n_tuple n_str n_all) g (fun _ _ _ _ _ _ us hl => match us, hl with | [_], _ => rfl)
/-! are_days -/
abbrev S_are_days : Stmt := top 16
abbrev N_are_days : List Str := ["x", "k", "day"]
theorem sc_are_days : FnScope N_are_days ["x"] (defScope S_are_days) := ⟨rfl, rfl, rfl, by decide +kernel, rfl, by decide +kernel, by decide +kernel⟩
def m_are_days : SM := (sSeq (sIf (tOrM (tNotM (tOfE (eIsT .tuple (rVar 0)))) (tOrM (tOfE (eOp2 eqO (rVar 0) (rOf (eTup lNil)))) (tNotM (tOfE (eCallB allD2 (aCons (rOf (eComp (iVal (eVar 0)) (gNm 2) tYesM (eCall [false, false, false] false F_is_between (aCons (rVar 2) (aCons (rOf (eC (.int 0))) (aCons (rOf (eC (.int 6))) aNil)))) [2])) aNil)))))) (sRet (eC (.bl false))) sNil) (sRet (eCallB allD2 (aCons (rOf (eComp (iRange1 (eOp2 subD (rOf (eCallB lenD (aCons (rVar 0) aNil))) (rOf (eC (.int 1))))) (gNm 1) tYesM (eOp2 lt2 (rOf (eOp2 ixD (rVar 0) (rVar 1))) (rOf (eOp2 ixD (rVar 0) (rOf (eOp2 addD (rVar 1) (rOf (eC (.int 1)))))))) [1])) aNil))))
def F_are_days : List D → FRes := runF [false] 3 m_are_days
theorem fn_are_days {P : Program} {w : World} {K : PySem.W.Frag} {mg : Str → Option Value} {base : Heap} {f : Addr} {fd : FuncData} (D : FnP K "are_days" S_are_days f fd)  (h_is_between : Has P w K mg base 2 "is_between" [false, false, false] F_is_between) (n_all : mg "all" = none) (n_isinstance : mg "isinstance" = none) (n_tuple : mg "tuple" = none) (n_range : mg "range" = none) (n_len : mg "len" = none) : FnOk P w K mg base (L2.CX P w) 3 f fd ["x"] (spF K mg [false] F_are_days) := by
  refine fn_defD (k := 2) D sc_are_days rfl fun cdv A outer s H E hr => ?_
  have c := cd_of (X := cxOf (L2.CX P w) P w K mg base N_are_days "are_days" (defScope S_are_days) f cdv A outer s H E) hr
  have tk := takes_of (X := cxOf (L2.CX P w) P w K mg base N_are_days "are_days" (defScope S_are_days) f cdv A outer s H E) (E := E) rfl rfl rfl rfl
  have nd := sc_are_days.nd
  exact (dss_cons (ds_if (dt_w (dw_or (dt_not (dt_e (de_isT .tuple (dr_var (pv 0)) rfl n_isinstance rfl n_tuple bt_tuple))) (dw_or (dt_cmp (op_eq2 c) o_eq (dr_var (pv 0)) (dr_e (de_tup dl_nil)) (by with_unfolding_all rfl)) (dw_or1 (dt_not (dt_e (de_callB (cr_all c.calm) f_all rfl n_all bt_all (da_cons (dr_e (de_f (df_comp c nd (di_val (de_var (pv 0))) (blkOk_by (N := N_are_days) (sc := defScope S_are_days) (own := [("day", 2)]) (by decide +kernel)) (fun _ _ _ _ _ => (dg_name (i := 2) nd rfl (by first | exact Or.inl rfl | exact Or.inr rfl))) (fun _ _ _ _ _ => dts_nil) (fun _ _ _ _ _ => (de_callH h_is_between hr rfl takes0 (da_cons (dr_var (pv 2)) (da_cons (dr_e de_int) (da_cons (dr_e de_int) da_nil))) (by omega)))))) da_nil)))))))) (dss_one (ds_ret de_bl)) dss_nil) (dss_one (ds_ret (de_callB (cr_all c.calm) f_all rfl n_all bt_all (da_cons (dr_e (de_f (df_comp c nd (di_range1 rfl n_range (de_op op_sub o_sub (dr_e (de_callB call_len f_len rfl n_len bt_len (da_cons (dr_var (pv 0)) da_nil))) (dr_e de_int))) (blkOk_by (N := N_are_days) (sc := defScope S_are_days) (own := [("k", 1)]) (by decide +kernel)) (fun _ _ _ _ _ => (dg_name (i := 1) nd rfl (by first | exact Or.inl rfl | exact Or.inr rfl))) (fun _ _ _ _ _ => dts_nil) (fun _ _ _ _ _ => (de_cmp (op_lt2 c.blk) o_lt2 (dr_e (de_ix c.blk (dr_var (pv 0)) (dr_var (pv 1)))) (dr_e (de_ix c.blk (dr_var (pv 0)) (dr_e (de_op op_add4 o_add (dr_var (pv 1)) (dr_e de_int))))) (by with_unfolding_all rfl)))))) da_nil)))))
theorem has_are_days {P : Program} {w : World} {K : PySem.W.Frag} {mg : Str → Option Value} {base : Heap} {f : Addr} {fd : FuncData} (D : FnP K "are_days" S_are_days f fd) (g : mg "are_days" = some (.ref f)) (h_is_between : Has P w K mg base 2 "is_between" [false, false, false] F_is_between) (n_all : mg "all" = none) (n_isinstance : mg "isinstance" = none) (n_tuple : mg "tuple" = none) (n_range : mg "range" = none) (n_len : mg "len" = none) : Has P w K mg base 3 "are_days" [false] F_are_days :=
  has_of D (fn_are_days D h_is_between n_all n_isinstance n_tuple n_range n_len) g (fun _ _ _ _ _ _ us hl => match us, hl with | [_], _ => rfl)
/-! are_hours -/
abbrev S_are_hours : Stmt := top 17
abbrev N_are_hours : List Str := ["start", "end"]
theorem sc_are_hours : FnScope N_are_hours ["start", "end"] (defScope S_are_hours) := ⟨rfl, rfl, rfl, by decide +kernel, rfl, by decide +kernel, by decide +kernel⟩
def m_are_hours : SM := (sRet (eAnd (eCall [false, false, false] false F_is_between (aCons (rVar 0) (aCons (rOf (eC (.int 0))) (aCons (rOf (eC (.int 23))) aNil)))) (eAnd (eCall [false, false, false] false F_is_between (aCons (rVar 1) (aCons (rOf (eC (.int 1))) (aCons (rOf (eC (.int 24))) aNil)))) (eOp2 lt2 (rVar 0) (rVar 1)))))
def F_are_hours : List D → FRes := runF [false, false] 2 m_are_hours
theorem fn_are_hours {P : Program} {w : World} {K : PySem.W.Frag} {mg : Str → Option Value} {base : Heap} {f : Addr} {fd : FuncData} (D : FnP K "are_hours" S_are_hours f fd)  (h_is_between : Has P w K mg base 2 "is_between" [false, false, false] F_is_between)  : FnOk P w K mg base (L2.CX P w) 3 f fd ["start", "end"] (spF K mg [false, false] F_are_hours) := by
  refine fn_defD (k := 2) D sc_are_hours rfl fun cdv A outer s H E hr => ?_
  have c := cd_of (X := cxOf (L2.CX P w) P w K mg base N_are_hours "are_hours" (defScope S_are_hours) f cdv A outer s H E) hr
  have tk := takes_of (X := cxOf (L2.CX P w) P w K mg base N_are_hours "are_hours" (defScope S_are_hours) f cdv A outer s H E) (E := E) rfl rfl rfl rfl
  have nd := sc_are_hours.nd
  exact (dss_one (ds_ret (de_and (de_callH h_is_between hr rfl tk (da_cons (dr_var (pv 0)) (da_cons (dr_e de_int) (da_cons (dr_e de_int) da_nil))) (by omega)) (de_and (de_callH h_is_between hr rfl tk (da_cons (dr_var (pv 1)) (da_cons (dr_e de_int) (da_cons (dr_e de_int) da_nil))) (by omega)) (de_one (de_cmp (op_lt2 c) o_lt2 (dr_var (pv 0)) (dr_var (pv 1)) (by with_unfolding_all rfl)))))))
theorem has_are_hours {P : Program} {w : World} {K : PySem.W.Frag} {mg : Str → Option Value} {base : Heap} {f : Addr} {fd : FuncData} (D : FnP K "are_hours" S_are_hours f fd) (g : mg "are_hours" = some (.ref f)) (h_is_between : Has P w K mg base 2 "is_between" [false, false, false] F_is_between)  : Has P w K mg base 3 "are_hours" [false, false] F_are_hours :=
  has_of D (fn_are_hours D h_is_between) g (fun _ _ _ _ _ _ us hl => match us, hl with | [_, _], _ => rfl)
/-! _law_kind -/
abbrev S__law_kind : Stmt := top 25
abbrev N__law_kind : List Str := ["_law_purse_here", "_law_name"]
theorem sc__law_kind : FnScope N__law_kind ["_law_purse_here"] (defScope S__law_kind) := ⟨rfl, rfl, rfl, by decide +kernel, rfl, by decide +kernel, by decide +kernel⟩
def m__law_kind : SM := (sSeq (sSet 1 (eCall [true] false F__law_any_name (aCons (rVar 0) aNil))) (sRet (eOp2 ixD (rOf (eLst (lCons (eVar 1) (lCons (eOp2 addD (rOf (eSl (rVar 1) oNo (oSome (eC (.int 7))))) (rOf (eC (.str "s")))) lNil)))) (rOf (eCallB intD (aCons (rOf (eOp2 inD (rVar 1) (rOf (eTup (lCons (eC (.str "any")) (lCons (eC (.str "fresh")) lNil)))))) aNil))))))
def F__law_kind : List D → FRes := runF [true] 2 m__law_kind
theorem fn__law_kind {P : Program} {w : World} {K : PySem.W.Frag} {mg : Str → Option Value} {base : Heap} {f : Addr} {fd : FuncData} (D : FnP K "_law_kind" S__law_kind f fd)  (h__law_any_name : Has P w K mg base 2 "_law_any_name" [true] F__law_any_name) (n_int : mg "int" = none) : FnOk P w K mg base (L2.CX P w) 3 f fd ["_law_purse_here"] (spF K mg [true] F__law_kind) := by
  refine fn_defD (k := 2) D sc__law_kind rfl fun cdv A outer s H E hr => ?_
  have c := cd_of (X := cxOf (L2.CX P w) P w K mg base N__law_kind "_law_kind" (defScope S__law_kind) f cdv A outer s H E) hr
  have tk := takes_of (X := cxOf (L2.CX P w) P w K mg base N__law_kind "_law_kind" (defScope S__law_kind) f cdv A outer s H E) (E := E) rfl rfl rfl rfl
  have nd := sc__law_kind.nd
  exact (dss_cons (ds_set (i := 1) nd rfl (by first | exact Or.inl rfl | exact Or.inr rfl) (de_callH h__law_any_name hr rfl tk (da_cons (dr_var (pv 0)) da_nil) (by omega))) (dss_one (ds_ret (de_ix c (dr_e (de_f (df_lst (dl_cons (de_var (pv 1)) (dl_cons (de_op op_add4 o_add (dr_e (de_sl (dr_var (pv 1)) do_none (do_some de_int))) (dr_e de_str)) dl_nil))))) (dr_e (de_callT call_int1 f_int rfl n_int bt_int (da_cons (dr_e (de_cmp (op_in c) o_in (dr_var (pv 1)) (dr_e (de_tup (dl_cons de_str (dl_cons de_str dl_nil)))) (by with_unfolding_all rfl))) da_nil)))))))
theorem has__law_kind {P : Program} {w : World} {K : PySem.W.Frag} {mg : Str → Option Value} {base : Heap} {f : Addr} {fd : FuncData} (D : FnP K "_law_kind" S__law_kind f fd) (g : mg "_law_kind" = some (.ref f)) (h__law_any_name : Has P w K mg base 2 "_law_any_name" [true] F__law_any_name) (n_int : mg "int" = none) : Has P w K mg base 3 "_law_kind" [true] F__law_kind :=
  has_of D (fn__law_kind D h__law_any_name n_int) g (fun _ _ _ _ _ _ us hl => match us, hl with | [_], _ => rfl)
/-! _law_is_rule -/
abbrev S__law_is_rule : Stmt := top 32
abbrev N__law_is_rule : List Str := ["_law_x", "_law_parts", "_law_word"]
theorem sc__law_is_rule : FnScope N__law_is_rule ["_law_x"] (defScope S__law_is_rule) := ⟨rfl, rfl, rfl, by decide +kernel, rfl, by decide +kernel, by decide +kernel⟩
def m__law_is_rule : SM := (sSeq (sIf (tOrM (tNotM (tOfE (eIsT .tuple (rVar 0)))) (tOrM (tOfE (eOp2 eqO (rVar 0) (rOf (eTup lNil)))) (tNotM (tOfE (eIsT .str (rOf (eOp2 ixD (rVar 0) (rOf (eC (.int 0)))))))))) (sRet (eC (.bl false))) sNil) (sSeq (sSet 1 (eSl (rVar 0) (oSome (eC (.int 1))) oNo)) (sSeq (sIf (tOfE (eOp2 inD (rOf (eOp2 ixD (rVar 0) (rOf (eC (.int 0))))) (rOf (eTup (lCons (eC (.str "song")) (lCons (eC (.str "singer")) (lCons (eC (.str "fresh")) lNil))))))) (sRet (eAnd (eOp2 eqO (rOf (eCallB lenD (aCons (rVar 1) aNil))) (rOf (eC (.int 1)))) (eCall [false, false, false] false F__law_within (aCons (rOf (eOp2 ixD (rVar 1) (rOf (eC (.int 0))))) (aCons (rOf (eC (.int 0))) (aCons (rOf (eC (.int 99999))) aNil)))))) sNil) (sSeq (sIf (tOfE (eOp2 eqO (rOf (eOp2 ixD (rVar 0) (rOf (eC (.int 0))))) (rOf (eC (.str "behind"))))) (sRet (eAnd (eOp2 eqO (rOf (eCallB lenD (aCons (rVar 1) aNil))) (rOf (eC (.int 2)))) (eAnd (eCall [false] false F__law_is_kind (aCons (rOf (eOp2 ixD (rVar 1) (rOf (eC (.int 0))))) aNil)) (eCall [false] false F__law_is_kind (aCons (rOf (eOp2 ixD (rVar 1) (rOf (eC (.int 1))))) aNil))))) sNil) (sSeq (sIf (tAndM (tOfE (eOp2 eqO (rOf (eOp2 ixD (rVar 0) (rOf (eC (.int 0))))) (rOf (eC (.str "most"))))) (tOfE (eOp2 eqO (rOf (eCallB lenD (aCons (rVar 1) aNil))) (rOf (eC (.int 3)))))) (sRet (eAnd (eCall [false] false F__law_is_kind (aCons (rOf (eOp2 ixD (rVar 1) (rOf (eC (.int 0))))) aNil)) (eAnd (eCall [false, false, false] false F__law_within (aCons (rOf (eOp2 ixD (rVar 1) (rOf (eC (.int 1))))) (aCons (rOf (eC (.int 1))) (aCons (rOf (eC (.int 99))) aNil)))) (eCall [false, false, false] false F__law_within (aCons (rOf (eOp2 ixD (rVar 1) (rOf (eC (.int 2))))) (aCons (rOf (eC (.int 0))) (aCons (rOf (eC (.int 99999))) aNil))))))) sNil) (sSeq (sIf (tAndM (tOfE (eOp2 eqO (rOf (eOp2 ixD (rVar 0) (rOf (eC (.int 0))))) (rOf (eC (.str "never"))))) (tAndM (tOfE (eOp2 eqO (rOf (eCallB lenD (aCons (rVar 1) aNil))) (rOf (eC (.int 4))))) (tAndM (tOfE (eCall [false] false F__law_is_kind (aCons (rOf (eOp2 ixD (rVar 1) (rOf (eC (.int 0))))) aNil))) (tOfE (eCall [false] false F__law_are_days (aCons (rOf (eOp2 ixD (rVar 1) (rOf (eC (.int 1))))) aNil)))))) (sRet (eAnd (eCall [false, false, false] false F__law_within (aCons (rOf (eOp2 ixD (rVar 1) (rOf (eC (.int 2))))) (aCons (rOf (eC (.int 0))) (aCons (rOf (eC (.int 23))) aNil)))) (eAnd (eCall [false, false, false] false F__law_within (aCons (rOf (eOp2 ixD (rVar 1) (rOf (eC (.int 3))))) (aCons (rOf (eC (.int 1))) (aCons (rOf (eC (.int 24))) aNil)))) (eOp2 lt2 (rOf (eOp2 ixD (rVar 1) (rOf (eC (.int 2))))) (rOf (eOp2 ixD (rVar 1) (rOf (eC (.int 3))))))))) sNil) (sSeq (sIf (tOrM (tOfE (eOp2 neO (rOf (eOp2 ixD (rVar 0) (rOf (eC (.int 0))))) (rOf (eC (.str "wheel"))))) (tOrM (tOfE (eOp2 neO (rOf (eCallB lenD (aCons (rVar 1) aNil))) (rOf (eC (.int 1))))) (tNotM (tOfE (eIsT .tuple (rOf (eOp2 ixD (rVar 1) (rOf (eC (.int 0)))))))))) (sRet (eC (.bl false))) sNil) (sRet (eAnd (eChain le2 le2 (rOf (eC (.int 1))) (rOf (eCallB lenD (aCons (rOf (eOp2 ixD (rVar 1) (rOf (eC (.int 0))))) aNil))) (rOf (eC (.int 8)))) (eCallB allD2 (aCons (rOf (eComp (iVal (eOp2 ixD (rVar 1) (rOf (eC (.int 0))))) (gNm 2) tYesM (eCall [false] false F__law_is_name (aCons (rVar 2) aNil)) [2])) aNil)))))))))))
def F__law_is_rule : List D → FRes := runF [false] 3 m__law_is_rule
theorem fn__law_is_rule {P : Program} {w : World} {K : PySem.W.Frag} {mg : Str → Option Value} {base : Heap} {f : Addr} {fd : FuncData} (D : FnP K "_law_is_rule" S__law_is_rule f fd)  (h__law_within : Has P w K mg base 1 "_law_within" [false, false, false] F__law_within) (h__law_is_kind : Has P w K mg base 2 "_law_is_kind" [false] F__law_is_kind) (h__law_are_days : Has P w K mg base 2 "_law_are_days" [false] F__law_are_days) (h__law_is_name : Has P w K mg base 1 "_law_is_name" [false] F__law_is_name) (n_isinstance : mg "isinstance" = none) (n_str : mg "str" = none) (n_tuple : mg "tuple" = none) (n_len : mg "len" = none) (n_all : mg "all" = none) : FnOk P w K mg base (L2.CX P w) 3 f fd ["_law_x"] (spF K mg [false] F__law_is_rule) := by
  refine fn_defD (k := 2) D sc__law_is_rule rfl fun cdv A outer s H E hr => ?_
  have c := cd_of (X := cxOf (L2.CX P w) P w K mg base N__law_is_rule "_law_is_rule" (defScope S__law_is_rule) f cdv A outer s H E) hr
  have tk := takes_of (X := cxOf (L2.CX P w) P w K mg base N__law_is_rule "_law_is_rule" (defScope S__law_is_rule) f cdv A outer s H E) (E := E) rfl rfl rfl rfl
  have nd := sc__law_is_rule.nd
  exact (dss_cons (ds_if (dt_w (dw_or (dt_not (dt_e (de_isT .tuple (dr_var (pv 0)) rfl n_isinstance rfl n_tuple bt_tuple))) (dw_or (dt_cmp (op_eq2 c) o_eq (dr_var (pv 0)) (dr_e (de_tup dl_nil)) (by with_unfolding_all rfl)) (dw_or1 (dt_not (dt_e (de_isT .str (dr_e (de_ix c (dr_var (pv 0)) (dr_e de_int))) rfl n_isinstance rfl n_str bt_str))))))) (dss_one (ds_ret de_bl)) dss_nil) (dss_cons (ds_set (i := 1) nd rfl (by first | exact Or.inl rfl | exact Or.inr rfl) (de_sl (dr_var (pv 0)) (do_some de_int) do_none)) (dss_cons (ds_if (dt_cmp (op_in c) o_in (dr_e (de_ix c (dr_var (pv 0)) (dr_e de_int))) (dr_e (de_tup (dl_cons de_str (dl_cons de_str (dl_cons de_str dl_nil))))) (by with_unfolding_all rfl)) (dss_one (ds_ret (de_and (de_cmp (op_eq2 c) o_eq (dr_e (de_callB call_len f_len rfl n_len bt_len (da_cons (dr_var (pv 1)) da_nil))) (dr_e de_int) (by with_unfolding_all rfl)) (de_one (de_callH h__law_within hr rfl tk (da_cons (dr_e (de_ix c (dr_var (pv 1)) (dr_e de_int))) (da_cons (dr_e de_int) (da_cons (dr_e de_int) da_nil))) (by omega)))))) dss_nil) (dss_cons (ds_if (dt_cmp (op_eq2 c) o_eq (dr_e (de_ix c (dr_var (pv 0)) (dr_e de_int))) (dr_e de_str) (by with_unfolding_all rfl)) (dss_one (ds_ret (de_and (de_cmp (op_eq2 c) o_eq (dr_e (de_callB call_len f_len rfl n_len bt_len (da_cons (dr_var (pv 1)) da_nil))) (dr_e de_int) (by with_unfolding_all rfl)) (de_and (de_callH h__law_is_kind hr rfl tk (da_cons (dr_e (de_ix c (dr_var (pv 1)) (dr_e de_int))) da_nil) (by omega)) (de_one (de_callH h__law_is_kind hr rfl tk (da_cons (dr_e (de_ix c (dr_var (pv 1)) (dr_e de_int))) da_nil) (by omega))))))) dss_nil) (dss_cons (ds_if (dt_w (dw_and (dt_cmp (op_eq2 c) o_eq (dr_e (de_ix c (dr_var (pv 0)) (dr_e de_int))) (dr_e de_str) (by with_unfolding_all rfl)) (dw_and1 (dt_cmp (op_eq2 c) o_eq (dr_e (de_callB call_len f_len rfl n_len bt_len (da_cons (dr_var (pv 1)) da_nil))) (dr_e de_int) (by with_unfolding_all rfl))))) (dss_one (ds_ret (de_and (de_callH h__law_is_kind hr rfl tk (da_cons (dr_e (de_ix c (dr_var (pv 1)) (dr_e de_int))) da_nil) (by omega)) (de_and (de_callH h__law_within hr rfl tk (da_cons (dr_e (de_ix c (dr_var (pv 1)) (dr_e de_int))) (da_cons (dr_e de_int) (da_cons (dr_e de_int) da_nil))) (by omega)) (de_one (de_callH h__law_within hr rfl tk (da_cons (dr_e (de_ix c (dr_var (pv 1)) (dr_e de_int))) (da_cons (dr_e de_int) (da_cons (dr_e de_int) da_nil))) (by omega))))))) dss_nil) (dss_cons (ds_if (dt_w (dw_and (dt_cmp (op_eq2 c) o_eq (dr_e (de_ix c (dr_var (pv 0)) (dr_e de_int))) (dr_e de_str) (by with_unfolding_all rfl)) (dw_and (dt_cmp (op_eq2 c) o_eq (dr_e (de_callB call_len f_len rfl n_len bt_len (da_cons (dr_var (pv 1)) da_nil))) (dr_e de_int) (by with_unfolding_all rfl)) (dw_and (dt_e (de_callH h__law_is_kind hr rfl tk (da_cons (dr_e (de_ix c (dr_var (pv 1)) (dr_e de_int))) da_nil) (by omega))) (dw_and1 (dt_e (de_callH h__law_are_days hr rfl tk (da_cons (dr_e (de_ix c (dr_var (pv 1)) (dr_e de_int))) da_nil) (by omega)))))))) (dss_one (ds_ret (de_and (de_callH h__law_within hr rfl tk (da_cons (dr_e (de_ix c (dr_var (pv 1)) (dr_e de_int))) (da_cons (dr_e de_int) (da_cons (dr_e de_int) da_nil))) (by omega)) (de_and (de_callH h__law_within hr rfl tk (da_cons (dr_e (de_ix c (dr_var (pv 1)) (dr_e de_int))) (da_cons (dr_e de_int) (da_cons (dr_e de_int) da_nil))) (by omega)) (de_one (de_cmp (op_lt2 c) o_lt2 (dr_e (de_ix c (dr_var (pv 1)) (dr_e de_int))) (dr_e (de_ix c (dr_var (pv 1)) (dr_e de_int))) (by with_unfolding_all rfl))))))) dss_nil) (dss_cons (ds_if (dt_w (dw_or (dt_cmp (op_ne2 c) o_ne (dr_e (de_ix c (dr_var (pv 0)) (dr_e de_int))) (dr_e de_str) (by with_unfolding_all rfl)) (dw_or (dt_cmp (op_ne2 c) o_ne (dr_e (de_callB call_len f_len rfl n_len bt_len (da_cons (dr_var (pv 1)) da_nil))) (dr_e de_int) (by with_unfolding_all rfl)) (dw_or1 (dt_not (dt_e (de_isT .tuple (dr_e (de_ix c (dr_var (pv 1)) (dr_e de_int))) rfl n_isinstance rfl n_tuple bt_tuple))))))) (dss_one (ds_ret de_bl)) dss_nil) (dss_one (ds_ret (de_and (de_chain (op_le2 c) o_le2 (op_le2 c) o_le2 (dr_e de_int) (dr_e (de_callB call_len f_len rfl n_len bt_len (da_cons (dr_e (de_ix c (dr_var (pv 1)) (dr_e de_int))) da_nil))) (dr_e de_int)) (de_one (de_callB (cr_all c.calm) f_all rfl n_all bt_all (da_cons (dr_e (de_f (df_comp c nd (di_val (de_ix c (dr_var (pv 1)) (dr_e de_int))) (blkOk_by (N := N__law_is_rule) (sc := defScope S__law_is_rule) (own := [("_law_word", 2)]) (by decide +kernel)) (fun _ _ _ _ _ => (dg_name (i := 2) nd rfl (by first | exact Or.inl rfl | exact Or.inr rfl))) (fun _ _ _ _ _ => dts_nil) (fun _ _ _ _ _ => (de_callH h__law_is_name hr rfl takes0 (da_cons (dr_var (pv 2)) da_nil) (by omega)))))) da_nil)))))))))))))
theorem has__law_is_rule {P : Program} {w : World} {K : PySem.W.Frag} {mg : Str → Option Value} {base : Heap} {f : Addr} {fd : FuncData} (D : FnP K "_law_is_rule" S__law_is_rule f fd) (g : mg "_law_is_rule" = some (.ref f)) (h__law_within : Has P w K mg base 1 "_law_within" [false, false, false] F__law_within) (h__law_is_kind : Has P w K mg base 2 "_law_is_kind" [false] F__law_is_kind) (h__law_are_days : Has P w K mg base 2 "_law_are_days" [false] F__law_are_days) (h__law_is_name : Has P w K mg base 1 "_law_is_name" [false] F__law_is_name) (n_isinstance : mg "isinstance" = none) (n_str : mg "str" = none) (n_tuple : mg "tuple" = none) (n_len : mg "len" = none) (n_all : mg "all" = none) : Has P w K mg base 3 "_law_is_rule" [false] F__law_is_rule :=
  has_of D (fn__law_is_rule D h__law_within h__law_is_kind h__law_are_days h__law_is_name n_isinstance n_str n_tuple n_len n_all) g (fun _ _ _ _ _ _ us hl => match us, hl with | [_], _ => rfl)
/-! is_rule -/
abbrev S_is_rule : Stmt := top 18
abbrev N_is_rule : List Str := ["x", "word", "many"]
theorem sc_is_rule : FnScope N_is_rule ["x"] (defScope S_is_rule) := ⟨rfl, rfl, rfl, by decide +kernel, rfl, by decide +kernel, by decide +kernel⟩
def m_is_rule : SM := (sSeq (sIf (tOrM (tNotM (tOfE (eIsT .tuple (rVar 0)))) (tOrM (tOfE (eOp2 lt2 (rOf (eCallB lenD (aCons (rVar 0) aNil))) (rOf (eC (.int 2))))) (tNotM (tOfE (eIsT .str (rOf (eOp2 ixD (rVar 0) (rOf (eC (.int 0)))))))))) (sRet (eC (.bl false))) sNil) (sSeq (sPar 1 2 (lCons (eOp2 ixD (rVar 0) (rOf (eC (.int 0)))) (lCons (eCallB lenD (aCons (rVar 0) aNil)) lNil))) (sSeq (sIf (tOfE (eOp2 inD (rVar 1) (rOf (eTup (lCons (eC (.str "song")) (lCons (eC (.str "singer")) (lCons (eC (.str "fresh")) lNil))))))) (sRet (eAnd (eOp2 eqO (rVar 2) (rOf (eC (.int 2)))) (eCall [false, false, false] false F_is_between (aCons (rOf (eOp2 ixD (rVar 0) (rOf (eC (.int 1))))) (aCons (rOf (eC (.int 0))) (aCons (rOf (eC G_MOST_SPAN)) aNil)))))) sNil) (sSeq (sIf (tOfE (eOp2 eqO (rVar 1) (rOf (eC (.str "behind"))))) (sRet (eAnd (eOp2 eqO (rVar 2) (rOf (eC (.int 3)))) (eAnd (eCall [false] false F_is_kind (aCons (rOf (eOp2 ixD (rVar 0) (rOf (eC (.int 1))))) aNil)) (eCall [false] false F_is_kind (aCons (rOf (eOp2 ixD (rVar 0) (rOf (eC (.int 2))))) aNil))))) sNil) (sSeq (sIf (tOfE (eOp2 eqO (rVar 1) (rOf (eC (.str "never"))))) (sRet (eAnd (eOp2 eqO (rVar 2) (rOf (eC (.int 5)))) (eAnd (eCall [false] false F_is_kind (aCons (rOf (eOp2 ixD (rVar 0) (rOf (eC (.int 1))))) aNil)) (eAnd (eCall [false] false F_are_days (aCons (rOf (eOp2 ixD (rVar 0) (rOf (eC (.int 2))))) aNil)) (eCall [false, false] false F_are_hours (aCons (rOf (eOp2 ixD (rVar 0) (rOf (eC (.int 3))))) (aCons (rOf (eOp2 ixD (rVar 0) (rOf (eC (.int 4))))) aNil))))))) sNil) (sSeq (sIf (tOfE (eOp2 eqO (rVar 1) (rOf (eC (.str "most"))))) (sRet (eAnd (eOp2 eqO (rVar 2) (rOf (eC (.int 4)))) (eAnd (eCall [false] false F_is_kind (aCons (rOf (eOp2 ixD (rVar 0) (rOf (eC (.int 1))))) aNil)) (eAnd (eCall [false, false, false] false F_is_between (aCons (rOf (eOp2 ixD (rVar 0) (rOf (eC (.int 2))))) (aCons (rOf (eC (.int 1))) (aCons (rOf (eC G_MOST_MANY)) aNil)))) (eCall [false, false, false] false F_is_between (aCons (rOf (eOp2 ixD (rVar 0) (rOf (eC (.int 3))))) (aCons (rOf (eC (.int 0))) (aCons (rOf (eC G_MOST_SPAN)) aNil)))))))) sNil) (sRet (eAnd (eOp2 eqO (rVar 1) (rOf (eC (.str "wheel")))) (eAnd (eOp2 eqO (rVar 2) (rOf (eC (.int 2)))) (eCall [false] false F_are_words (aCons (rOf (eOp2 ixD (rVar 0) (rOf (eC (.int 1))))) aNil)))))))))))
def F_is_rule : List D → FRes := runF [false] 3 m_is_rule
theorem fn_is_rule {P : Program} {w : World} {K : PySem.W.Frag} {mg : Str → Option Value} {base : Heap} {f : Addr} {fd : FuncData} (D : FnP K "is_rule" S_is_rule f fd)  (h_is_between : Has P w K mg base 2 "is_between" [false, false, false] F_is_between) (h_is_kind : Has P w K mg base 2 "is_kind" [false] F_is_kind) (h_are_hours : Has P w K mg base 3 "are_hours" [false, false] F_are_hours) (h_are_days : Has P w K mg base 3 "are_days" [false] F_are_days) (h_are_words : Has P w K mg base 3 "are_words" [false] F_are_words) (v_MOST_SPAN : Gv K mg "MOST_SPAN" G_MOST_SPAN) (v_MOST_MANY : Gv K mg "MOST_MANY" G_MOST_MANY) (n_isinstance : mg "isinstance" = none) (n_str : mg "str" = none) (n_len : mg "len" = none) (n_tuple : mg "tuple" = none) : FnOk P w K mg base (L2.CX P w) 4 f fd ["x"] (spF K mg [false] F_is_rule) := by
  refine fn_defD (k := 3) D sc_is_rule rfl fun cdv A outer s H E hr => ?_
  have c := cd_of (X := cxOf (L2.CX P w) P w K mg base N_is_rule "is_rule" (defScope S_is_rule) f cdv A outer s H E) hr
  have tk := takes_of (X := cxOf (L2.CX P w) P w K mg base N_is_rule "is_rule" (defScope S_is_rule) f cdv A outer s H E) (E := E) rfl rfl rfl rfl
  have nd := sc_is_rule.nd
  exact (dss_cons (ds_if (dt_w (dw_or (dt_not (dt_e (de_isT .tuple (dr_var (pv 0)) rfl n_isinstance rfl n_tuple bt_tuple))) (dw_or (dt_cmp (op_lt2 c) o_lt2 (dr_e (de_callB call_len f_len rfl n_len bt_len (da_cons (dr_var (pv 0)) da_nil))) (dr_e de_int) (by with_unfolding_all rfl)) (dw_or1 (dt_not (dt_e (de_isT .str (dr_e (de_ix c (dr_var (pv 0)) (dr_e de_int))) rfl n_isinstance rfl n_str bt_str))))))) (dss_one (ds_ret de_bl)) dss_nil) (dss_cons (ds_par (i := 1) (j := 2) c nd rfl rfl (by decide) rfl rfl (dl_cons (de_ix c (dr_var (pv 0)) (dr_e de_int)) (dl_cons (de_callB call_len f_len rfl n_len bt_len (da_cons (dr_var (pv 0)) da_nil)) dl_nil)) (by rfl)) (dss_cons (ds_if (dt_cmp (op_in c) o_in (dr_var (pv 1)) (dr_e (de_tup (dl_cons de_str (dl_cons de_str (dl_cons de_str dl_nil))))) (by with_unfolding_all rfl)) (dss_one (ds_ret (de_and (de_cmp (op_eq2 c) o_eq (dr_var (pv 2)) (dr_e de_int) (by with_unfolding_all rfl)) (de_one (de_callH h_is_between hr rfl tk (da_cons (dr_e (de_ix c (dr_var (pv 0)) (dr_e de_int))) (da_cons (dr_e de_int) (da_cons (dr_e (de_glob v_MOST_SPAN rfl)) da_nil))) (by omega)))))) dss_nil) (dss_cons (ds_if (dt_cmp (op_eq2 c) o_eq (dr_var (pv 1)) (dr_e de_str) (by with_unfolding_all rfl)) (dss_one (ds_ret (de_and (de_cmp (op_eq2 c) o_eq (dr_var (pv 2)) (dr_e de_int) (by with_unfolding_all rfl)) (de_and (de_callH h_is_kind hr rfl tk (da_cons (dr_e (de_ix c (dr_var (pv 0)) (dr_e de_int))) da_nil) (by omega)) (de_one (de_callH h_is_kind hr rfl tk (da_cons (dr_e (de_ix c (dr_var (pv 0)) (dr_e de_int))) da_nil) (by omega))))))) dss_nil) (dss_cons (ds_if (dt_cmp (op_eq2 c) o_eq (dr_var (pv 1)) (dr_e de_str) (by with_unfolding_all rfl)) (dss_one (ds_ret (de_and (de_cmp (op_eq2 c) o_eq (dr_var (pv 2)) (dr_e de_int) (by with_unfolding_all rfl)) (de_and (de_callH h_is_kind hr rfl tk (da_cons (dr_e (de_ix c (dr_var (pv 0)) (dr_e de_int))) da_nil) (by omega)) (de_and (de_callH h_are_days hr rfl tk (da_cons (dr_e (de_ix c (dr_var (pv 0)) (dr_e de_int))) da_nil) (by omega)) (de_one (de_callH h_are_hours hr rfl tk (da_cons (dr_e (de_ix c (dr_var (pv 0)) (dr_e de_int))) (da_cons (dr_e (de_ix c (dr_var (pv 0)) (dr_e de_int))) da_nil)) (by omega)))))))) dss_nil) (dss_cons (ds_if (dt_cmp (op_eq2 c) o_eq (dr_var (pv 1)) (dr_e de_str) (by with_unfolding_all rfl)) (dss_one (ds_ret (de_and (de_cmp (op_eq2 c) o_eq (dr_var (pv 2)) (dr_e de_int) (by with_unfolding_all rfl)) (de_and (de_callH h_is_kind hr rfl tk (da_cons (dr_e (de_ix c (dr_var (pv 0)) (dr_e de_int))) da_nil) (by omega)) (de_and (de_callH h_is_between hr rfl tk (da_cons (dr_e (de_ix c (dr_var (pv 0)) (dr_e de_int))) (da_cons (dr_e de_int) (da_cons (dr_e (de_glob v_MOST_MANY rfl)) da_nil))) (by omega)) (de_one (de_callH h_is_between hr rfl tk (da_cons (dr_e (de_ix c (dr_var (pv 0)) (dr_e de_int))) (da_cons (dr_e de_int) (da_cons (dr_e (de_glob v_MOST_SPAN rfl)) da_nil))) (by omega)))))))) dss_nil) (dss_one (ds_ret (de_and (de_cmp (op_eq2 c) o_eq (dr_var (pv 1)) (dr_e de_str) (by with_unfolding_all rfl)) (de_and (de_cmp (op_eq2 c) o_eq (dr_var (pv 2)) (dr_e de_int) (by with_unfolding_all rfl)) (de_one (de_callH h_are_words hr rfl tk (da_cons (dr_e (de_ix c (dr_var (pv 0)) (dr_e de_int))) da_nil) (by omega)))))))))))))
theorem has_is_rule {P : Program} {w : World} {K : PySem.W.Frag} {mg : Str → Option Value} {base : Heap} {f : Addr} {fd : FuncData} (D : FnP K "is_rule" S_is_rule f fd) (g : mg "is_rule" = some (.ref f)) (h_is_between : Has P w K mg base 2 "is_between" [false, false, false] F_is_between) (h_is_kind : Has P w K mg base 2 "is_kind" [false] F_is_kind) (h_are_hours : Has P w K mg base 3 "are_hours" [false, false] F_are_hours) (h_are_days : Has P w K mg base 3 "are_days" [false] F_are_days) (h_are_words : Has P w K mg base 3 "are_words" [false] F_are_words) (v_MOST_SPAN : Gv K mg "MOST_SPAN" G_MOST_SPAN) (v_MOST_MANY : Gv K mg "MOST_MANY" G_MOST_MANY) (n_isinstance : mg "isinstance" = none) (n_str : mg "str" = none) (n_len : mg "len" = none) (n_tuple : mg "tuple" = none) : Has P w K mg base 4 "is_rule" [false] F_is_rule :=
  has_of D (fn_is_rule D h_is_between h_is_kind h_are_hours h_are_days h_are_words v_MOST_SPAN v_MOST_MANY n_isinstance n_str n_len n_tuple) g (fun _ _ _ _ _ _ us hl => match us, hl with | [_], _ => rfl)
/-! _law_is_rules -/
abbrev S__law_is_rules : Stmt := top 33
abbrev N__law_is_rules : List Str := ["_law_x", "_law_heads", "_law_rule_here"]
theorem sc__law_is_rules : FnScope N__law_is_rules ["_law_x"] (defScope S__law_is_rules) := ⟨rfl, rfl, rfl, by decide +kernel, rfl, by decide +kernel, by decide +kernel⟩
def m__law_is_rules : SM := (sSeq (sIf (tOrM (tNotM (tOfE (eIsT .tuple (rVar 0)))) (tOrM (tOfE (eOp2 gt2 (rOf (eCallB lenD (aCons (rVar 0) aNil))) (rOf (eC (.int 12))))) (tNotM (tOfE (eCallB allD2 (aCons (rOf (eComp (iVal (eVar 0)) (gNm 2) tYesM (eCall [false] false F__law_is_rule (aCons (rVar 2) aNil)) [2])) aNil)))))) (sRet (eC (.bl false))) sNil) (sSeq (sSet 1 (eComp (iVal (eVar 0)) (gNm 2) tYesM (eOp2 ixD (rVar 2) (rOf (eC (.int 0)))) [2])) (sRet (eAnd (eOp2 lt2 (rOf (eCount (rVar 1) (rOf (eC (.str "fresh"))))) (rOf (eC (.int 2)))) (eOp2 lt2 (rOf (eCount (rVar 1) (rOf (eC (.str "wheel"))))) (rOf (eC (.int 2))))))))
def F__law_is_rules : List D → FRes := runF [false] 3 m__law_is_rules
theorem fn__law_is_rules {P : Program} {w : World} {K : PySem.W.Frag} {mg : Str → Option Value} {base : Heap} {f : Addr} {fd : FuncData} (D : FnP K "_law_is_rules" S__law_is_rules f fd)  (h__law_is_rule : Has P w K mg base 3 "_law_is_rule" [false] F__law_is_rule) (n_all : mg "all" = none) (n_len : mg "len" = none) (n_isinstance : mg "isinstance" = none) (n_tuple : mg "tuple" = none) : FnOk P w K mg base (L2.CX P w) 4 f fd ["_law_x"] (spF K mg [false] F__law_is_rules) := by
  refine fn_defD (k := 3) D sc__law_is_rules rfl fun cdv A outer s H E hr => ?_
  have c := cd_of (X := cxOf (L2.CX P w) P w K mg base N__law_is_rules "_law_is_rules" (defScope S__law_is_rules) f cdv A outer s H E) hr
  have tk := takes_of (X := cxOf (L2.CX P w) P w K mg base N__law_is_rules "_law_is_rules" (defScope S__law_is_rules) f cdv A outer s H E) (E := E) rfl rfl rfl rfl
  have nd := sc__law_is_rules.nd
  exact (dss_cons (ds_if (dt_w (dw_or (dt_not (dt_e (de_isT .tuple (dr_var (pv 0)) rfl n_isinstance rfl n_tuple bt_tuple))) (dw_or (dt_cmp (op_gt2 c) o_gt2 (dr_e (de_callB call_len f_len rfl n_len bt_len (da_cons (dr_var (pv 0)) da_nil))) (dr_e de_int) (by with_unfolding_all rfl)) (dw_or1 (dt_not (dt_e (de_callB (cr_all c.calm) f_all rfl n_all bt_all (da_cons (dr_e (de_f (df_comp c nd (di_val (de_var (pv 0))) (blkOk_by (N := N__law_is_rules) (sc := defScope S__law_is_rules) (own := [("_law_rule_here", 2)]) (by decide +kernel)) (fun _ _ _ _ _ => (dg_name (i := 2) nd rfl (by first | exact Or.inl rfl | exact Or.inr rfl))) (fun _ _ _ _ _ => dts_nil) (fun _ _ _ _ _ => (de_callH h__law_is_rule hr rfl takes0 (da_cons (dr_var (pv 2)) da_nil) (by omega)))))) da_nil)))))))) (dss_one (ds_ret de_bl)) dss_nil) (dss_cons (ds_setLc (i := 1) c nd rfl rfl (sw_true rfl rfl rfl (by decide +kernel)) (di_val (de_var (pv 0))) (blkOk_by (N := N__law_is_rules) (sc := defScope S__law_is_rules) (own := [("_law_rule_here", 2)]) (by decide +kernel)) (fun _ _ _ _ _ => (dg_name (i := 2) nd rfl (by first | exact Or.inl rfl | exact Or.inr rfl))) (fun _ _ _ _ _ => dts_nil) (fun _ _ _ _ _ => (de_ix c.blk (dr_var (pv 2)) (dr_e de_int)))) (dss_one (ds_ret (de_and (de_cmp (op_lt2 c) o_lt2 (dr_e (de_count c (dr_var (pv 1)) (dr_e de_str))) (dr_e de_int) (by with_unfolding_all rfl)) (de_one (de_cmp (op_lt2 c) o_lt2 (dr_e (de_count c (dr_var (pv 1)) (dr_e de_str))) (dr_e de_int) (by with_unfolding_all rfl))))))))
theorem has__law_is_rules {P : Program} {w : World} {K : PySem.W.Frag} {mg : Str → Option Value} {base : Heap} {f : Addr} {fd : FuncData} (D : FnP K "_law_is_rules" S__law_is_rules f fd) (g : mg "_law_is_rules" = some (.ref f)) (h__law_is_rule : Has P w K mg base 3 "_law_is_rule" [false] F__law_is_rule) (n_all : mg "all" = none) (n_len : mg "len" = none) (n_isinstance : mg "isinstance" = none) (n_tuple : mg "tuple" = none) : Has P w K mg base 4 "_law_is_rules" [false] F__law_is_rules :=
  has_of D (fn__law_is_rules D h__law_is_rule n_all n_len n_isinstance n_tuple) g (fun _ _ _ _ _ _ us hl => match us, hl with | [_], _ => rfl)
/-! _law_rule -/
abbrev S__law_rule : Stmt := top 35
abbrev N__law_rule : List Str := ["_law_purse_here", "_law_way", "_law_many", "_law_days", "_law_start", "_law_end", "_law_day", "_law_k"]
theorem sc__law_rule : FnScope N__law_rule ["_law_purse_here", "_law_way"] (defScope S__law_rule) := ⟨rfl, rfl, rfl, by decide +kernel, rfl, by decide +kernel, by decide +kernel⟩
def m__law_rule : SM := (sSeq (sIf (tOfE (eOp2 lt2 (rVar 1) (rOf (eC (.int 2))))) (sRet (eTup (lCons (eOp2 ixD (rOf (eLst (lCons (eC (.str "song")) (lCons (eC (.str "singer")) lNil)))) (rVar 1)) (lCons (eCall [true, false, false] false F__law_number (aCons (rVar 0) (aCons (rOf (eC (.int 0))) (aCons (rOf (eC (.int 99999))) aNil)))) lNil)))) sNil) (sSeq (sIf (tOfE (eOp2 eqO (rVar 1) (rOf (eC (.int 2))))) (sRet (eTup (lCons (eC (.str "behind")) (lCons (eCall [true] false F__law_kind (aCons (rVar 0) aNil)) (lCons (eCall [true] false F__law_kind (aCons (rVar 0) aNil)) lNil))))) sNil) (sSeq (sIf (tOfE (eOp2 eqO (rVar 1) (rOf (eC (.int 3))))) (sSeq (sSet 3 (eCallB tuple3D (aCons (rOf (eComp (iRange1 (eC (.int 7))) (gNm 6) (tOfE (eOp2 eqO (rOf (eCall [true, false] false F__law_pick (aCons (rVar 0) (aCons (rOf (eC (.int 2))) aNil)))) (rOf (eC (.int 1))))) (eVar 6) [6])) aNil))) (sSeq (sSet 4 (eCall [true, false, false] false F__law_number (aCons (rVar 0) (aCons (rOf (eC (.int 0))) (aCons (rOf (eC (.int 23))) aNil))))) (sSeq (sSet 5 (eOp2 ixD (rOf (eLst (lCons (eC (.int 24)) (lCons (eOp2 addD (rVar 4) (rOf (eC (.int 1)))) (lCons (eOp2 addD (rOf (eOp2 addD (rVar 4) (rOf (eC (.int 1))))) (rOf (eCall [true, false] false F__law_pick (aCons (rVar 0) (aCons (rOf (eOp2 subD (rOf (eC (.int 24))) (rVar 4))) aNil))))) lNil))))) (rOf (eCall [true, false] false F__law_pick (aCons (rVar 0) (aCons (rOf (eC (.int 3))) aNil)))))) (sRet (eTup (lCons (eC (.str "never")) (lCons (eCall [true] false F__law_kind (aCons (rVar 0) aNil)) (lCons (eOp2 addD (rVar 3) (rOf (eOp2 mul3 (rOf (eTup (lCons (eC (.int 3)) lNil))) (rOf (eCallB intD (aCons (rOf (eOp2 eqO (rVar 3) (rOf (eTup lNil)))) aNil)))))) (lCons (eVar 4) (lCons (eVar 5) lNil)))))))))) sNil) (sSeq (sIf (tOfE (eOp2 eqO (rVar 1) (rOf (eC (.int 4))))) (sRet (eTup (lCons (eC (.str "most")) (lCons (eCall [true] false F__law_kind (aCons (rVar 0) aNil)) (lCons (eCall [true, false, false] false F__law_number (aCons (rVar 0) (aCons (rOf (eC (.int 1))) (aCons (rOf (eC (.int 99))) aNil)))) (lCons (eCall [true, false, false] false F__law_number (aCons (rVar 0) (aCons (rOf (eC (.int 0))) (aCons (rOf (eC (.int 99999))) aNil)))) lNil)))))) sNil) (sSeq (sIf (tOfE (eOp2 eqO (rVar 1) (rOf (eC (.int 5))))) (sRet (eTup (lCons (eC (.str "fresh")) (lCons (eCall [true, false, false] false F__law_number (aCons (rVar 0) (aCons (rOf (eC (.int 0))) (aCons (rOf (eC (.int 99999))) aNil)))) lNil)))) sNil) (sSeq (sSet 2 (eOp2 ixD (rOf (eLst (lCons (eC (.int 1)) (lCons (eC (.int 2)) (lCons (eC (.int 7)) (lCons (eC (.int 8)) lNil)))))) (rOf (eCall [true, false] false F__law_pick (aCons (rVar 0) (aCons (rOf (eC (.int 4))) aNil)))))) (sRet (eTup (lCons (eC (.str "wheel")) (lCons (eCallB tuple3D (aCons (rOf (eComp (iRange1 (eVar 2)) (gNm 7) tYesM (eCall [true] false F__law_any_name (aCons (rVar 0) aNil)) [7])) aNil)) lNil))))))))))
def F__law_rule : List D → FRes := runF [true, false] 8 m__law_rule
theorem fn__law_rule {P : Program} {w : World} {K : PySem.W.Frag} {mg : Str → Option Value} {base : Heap} {f : Addr} {fd : FuncData} (D : FnP K "_law_rule" S__law_rule f fd)  (h__law_number : Has P w K mg base 2 "_law_number" [true, false, false] F__law_number) (h__law_kind : Has P w K mg base 3 "_law_kind" [true] F__law_kind) (h__law_pick : Has P w K mg base 1 "_law_pick" [true, false] F__law_pick) (h__law_any_name : Has P w K mg base 2 "_law_any_name" [true] F__law_any_name) (n_range : mg "range" = none) (n_tuple : mg "tuple" = none) (n_int : mg "int" = none) : FnOk P w K mg base (L2.CX P w) 4 f fd ["_law_purse_here", "_law_way"] (spF K mg [true, false] F__law_rule) := by
  refine fn_defD (k := 3) D sc__law_rule rfl fun cdv A outer s H E hr => ?_
  have c := cd_of (X := cxOf (L2.CX P w) P w K mg base N__law_rule "_law_rule" (defScope S__law_rule) f cdv A outer s H E) hr
  have tk := takes_of (X := cxOf (L2.CX P w) P w K mg base N__law_rule "_law_rule" (defScope S__law_rule) f cdv A outer s H E) (E := E) rfl rfl rfl rfl
  have nd := sc__law_rule.nd
  exact (dss_cons (ds_if (dt_cmp (op_lt2 c) o_lt2 (dr_var (pv 1)) (dr_e de_int) (by with_unfolding_all rfl)) (dss_one (ds_ret (de_tup (dl_cons (de_ix c (dr_e (de_f (df_lst (dl_cons de_str (dl_cons de_str dl_nil))))) (dr_var (pv 1))) (dl_cons (de_callH h__law_number hr rfl tk (da_cons (dr_var (pv 0)) (da_cons (dr_e de_int) (da_cons (dr_e de_int) da_nil))) (by omega)) dl_nil))))) dss_nil) (dss_cons (ds_if (dt_cmp (op_eq2 c) o_eq (dr_var (pv 1)) (dr_e de_int) (by with_unfolding_all rfl)) (dss_one (ds_ret (de_tup (dl_cons de_str (dl_cons (de_callH h__law_kind hr rfl tk (da_cons (dr_var (pv 0)) da_nil) (by omega)) (dl_cons (de_callH h__law_kind hr rfl tk (da_cons (dr_var (pv 0)) da_nil) (by omega)) dl_nil)))))) dss_nil) (dss_cons (ds_if (dt_cmp (op_eq2 c) o_eq (dr_var (pv 1)) (dr_e de_int) (by with_unfolding_all rfl)) (dss_cons (ds_set (i := 3) nd rfl (by first | exact Or.inl rfl | exact Or.inr rfl) (de_callT (call_tup3 c.calm) f_tup3 rfl n_tuple bt_tuple (da_cons (dr_e (de_f (df_comp c nd (di_range1 rfl n_range de_int) (blkOk_by (N := N__law_rule) (sc := defScope S__law_rule) (own := [("_law_day", 6)]) (by decide +kernel)) (fun _ _ _ _ _ => (dg_name (i := 6) nd rfl (by first | exact Or.inl rfl | exact Or.inr rfl))) (fun _ _ _ _ _ => (dts_one (dt_cmp (op_eq2 c.blk) o_eq (dr_e (de_callH h__law_pick hr rfl takes0 (da_cons (dr_var (pv 0)) (da_cons (dr_e de_int) da_nil)) (by omega))) (dr_e de_int) (by with_unfolding_all rfl)))) (fun _ _ _ _ _ => (de_var (pv 6)))))) da_nil))) (dss_cons (ds_set (i := 4) nd rfl (by first | exact Or.inl rfl | exact Or.inr rfl) (de_callH h__law_number hr rfl tk (da_cons (dr_var (pv 0)) (da_cons (dr_e de_int) (da_cons (dr_e de_int) da_nil))) (by omega))) (dss_cons (ds_set (i := 5) nd rfl (by first | exact Or.inl rfl | exact Or.inr rfl) (de_ix c (dr_e (de_f (df_lst (dl_cons de_int (dl_cons (de_op op_add4 o_add (dr_var (pv 4)) (dr_e de_int)) (dl_cons (de_op op_add4 o_add (dr_e (de_op op_add4 o_add (dr_var (pv 4)) (dr_e de_int))) (dr_e (de_callH h__law_pick hr rfl tk (da_cons (dr_var (pv 0)) (da_cons (dr_e (de_op op_sub o_sub (dr_e de_int) (dr_var (pv 4)))) da_nil)) (by omega)))) dl_nil)))))) (dr_e (de_callH h__law_pick hr rfl tk (da_cons (dr_var (pv 0)) (da_cons (dr_e de_int) da_nil)) (by omega))))) (dss_one (ds_ret (de_tup (dl_cons de_str (dl_cons (de_callH h__law_kind hr rfl tk (da_cons (dr_var (pv 0)) da_nil) (by omega)) (dl_cons (de_op op_add4 o_add (dr_var (pv 3)) (dr_e (de_op op_mul3 o_mul3 (dr_e (de_tup (dl_cons de_int dl_nil))) (dr_e (de_callT call_int1 f_int rfl n_int bt_int (da_cons (dr_e (de_cmp (op_eq2 c) o_eq (dr_var (pv 3)) (dr_e (de_tup dl_nil)) (by with_unfolding_all rfl))) da_nil)))))) (dl_cons (de_var (pv 4)) (dl_cons (de_var (pv 5)) dl_nil))))))))))) dss_nil) (dss_cons (ds_if (dt_cmp (op_eq2 c) o_eq (dr_var (pv 1)) (dr_e de_int) (by with_unfolding_all rfl)) (dss_one (ds_ret (de_tup (dl_cons de_str (dl_cons (de_callH h__law_kind hr rfl tk (da_cons (dr_var (pv 0)) da_nil) (by omega)) (dl_cons (de_callH h__law_number hr rfl tk (da_cons (dr_var (pv 0)) (da_cons (dr_e de_int) (da_cons (dr_e de_int) da_nil))) (by omega)) (dl_cons (de_callH h__law_number hr rfl tk (da_cons (dr_var (pv 0)) (da_cons (dr_e de_int) (da_cons (dr_e de_int) da_nil))) (by omega)) dl_nil))))))) dss_nil) (dss_cons (ds_if (dt_cmp (op_eq2 c) o_eq (dr_var (pv 1)) (dr_e de_int) (by with_unfolding_all rfl)) (dss_one (ds_ret (de_tup (dl_cons de_str (dl_cons (de_callH h__law_number hr rfl tk (da_cons (dr_var (pv 0)) (da_cons (dr_e de_int) (da_cons (dr_e de_int) da_nil))) (by omega)) dl_nil))))) dss_nil) (dss_cons (ds_set (i := 2) nd rfl (by first | exact Or.inl rfl | exact Or.inr rfl) (de_ix c (dr_e (de_f (df_lst (dl_cons de_int (dl_cons de_int (dl_cons de_int (dl_cons de_int dl_nil))))))) (dr_e (de_callH h__law_pick hr rfl tk (da_cons (dr_var (pv 0)) (da_cons (dr_e de_int) da_nil)) (by omega))))) (dss_one (ds_ret (de_tup (dl_cons de_str (dl_cons (de_callT (call_tup3 c.calm) f_tup3 rfl n_tuple bt_tuple (da_cons (dr_e (de_f (df_comp c nd (di_range1 rfl n_range (de_var (pv 2))) (blkOk_by (N := N__law_rule) (sc := defScope S__law_rule) (own := [("_law_k", 7)]) (by decide +kernel)) (fun _ _ _ _ _ => (dg_name (i := 7) nd rfl (by first | exact Or.inl rfl | exact Or.inr rfl))) (fun _ _ _ _ _ => dts_nil) (fun _ _ _ _ _ => (de_callH h__law_any_name hr rfl takes0 (da_cons (dr_var (pv 0)) da_nil) (by omega)))))) da_nil)) dl_nil)))))))))))
theorem has__law_rule {P : Program} {w : World} {K : PySem.W.Frag} {mg : Str → Option Value} {base : Heap} {f : Addr} {fd : FuncData} (D : FnP K "_law_rule" S__law_rule f fd) (g : mg "_law_rule" = some (.ref f)) (h__law_number : Has P w K mg base 2 "_law_number" [true, false, false] F__law_number) (h__law_kind : Has P w K mg base 3 "_law_kind" [true] F__law_kind) (h__law_pick : Has P w K mg base 1 "_law_pick" [true, false] F__law_pick) (h__law_any_name : Has P w K mg base 2 "_law_any_name" [true] F__law_any_name) (n_range : mg "range" = none) (n_tuple : mg "tuple" = none) (n_int : mg "int" = none) : Has P w K mg base 4 "_law_rule" [true, false] F__law_rule :=
  has_of D (fn__law_rule D h__law_number h__law_kind h__law_pick h__law_any_name n_range n_tuple n_int) g (fun _ _ _ _ _ _ us hl => match us, hl with | [_, _], _ => rfl)
/-! is_rules -/
abbrev S_is_rules : Stmt := top 19
abbrev N_is_rules : List Str := ["x", "heads", "rule", "word"]
theorem sc_is_rules : FnScope N_is_rules ["x"] (defScope S_is_rules) := ⟨rfl, rfl, rfl, by decide +kernel, rfl, by decide +kernel, by decide +kernel⟩
def m_is_rules : SM := (sSeq (sIf (tOrM (tNotM (tOfE (eIsT .tuple (rVar 0)))) (tOrM (tOfE (eOp2 gt2 (rOf (eCallB lenD (aCons (rVar 0) aNil))) (rOf (eC G_MOST_RULES)))) (tNotM (tOfE (eCallB allD2 (aCons (rOf (eComp (iVal (eVar 0)) (gNm 2) tYesM (eCall [false] false F_is_rule (aCons (rVar 2) aNil)) [2])) aNil)))))) (sRet (eC (.bl false))) sNil) (sSeq (sSet 1 (eComp (iVal (eVar 0)) (gNm 2) tYesM (eOp2 ixD (rVar 2) (rOf (eC (.int 0)))) [2])) (sRet (eCallB allD2 (aCons (rOf (eComp (iVal (eC G_ONCE)) (gNm 3) tYesM (eOp2 le2 (rOf (eCount (rVar 1) (rVar 3))) (rOf (eC (.int 1)))) [3])) aNil)))))
def F_is_rules : List D → FRes := runF [false] 4 m_is_rules
theorem fn_is_rules {P : Program} {w : World} {K : PySem.W.Frag} {mg : Str → Option Value} {base : Heap} {f : Addr} {fd : FuncData} (D : FnP K "is_rules" S_is_rules f fd)  (h_is_rule : Has P w K mg base 4 "is_rule" [false] F_is_rule) (v_MOST_RULES : Gv K mg "MOST_RULES" G_MOST_RULES) (v_ONCE : Gv K mg "ONCE" G_ONCE) (n_all : mg "all" = none) (n_len : mg "len" = none) (n_isinstance : mg "isinstance" = none) (n_tuple : mg "tuple" = none) : FnOk P w K mg base (L2.CX P w) 5 f fd ["x"] (spF K mg [false] F_is_rules) := by
  refine fn_defD (k := 4) D sc_is_rules rfl fun cdv A outer s H E hr => ?_
  have c := cd_of (X := cxOf (L2.CX P w) P w K mg base N_is_rules "is_rules" (defScope S_is_rules) f cdv A outer s H E) hr
  have tk := takes_of (X := cxOf (L2.CX P w) P w K mg base N_is_rules "is_rules" (defScope S_is_rules) f cdv A outer s H E) (E := E) rfl rfl rfl rfl
  have nd := sc_is_rules.nd
  exact (dss_cons (ds_if (dt_w (dw_or (dt_not (dt_e (de_isT .tuple (dr_var (pv 0)) rfl n_isinstance rfl n_tuple bt_tuple))) (dw_or (dt_cmp (op_gt2 c) o_gt2 (dr_e (de_callB call_len f_len rfl n_len bt_len (da_cons (dr_var (pv 0)) da_nil))) (dr_e (de_glob v_MOST_RULES rfl)) (by with_unfolding_all rfl)) (dw_or1 (dt_not (dt_e (de_callB (cr_all c.calm) f_all rfl n_all bt_all (da_cons (dr_e (de_f (df_comp c nd (di_val (de_var (pv 0))) (blkOk_by (N := N_is_rules) (sc := defScope S_is_rules) (own := [("rule", 2)]) (by decide +kernel)) (fun _ _ _ _ _ => (dg_name (i := 2) nd rfl (by first | exact Or.inl rfl | exact Or.inr rfl))) (fun _ _ _ _ _ => dts_nil) (fun _ _ _ _ _ => (de_callH h_is_rule hr rfl takes0 (da_cons (dr_var (pv 2)) da_nil) (by omega)))))) da_nil)))))))) (dss_one (ds_ret de_bl)) dss_nil) (dss_cons (ds_set (i := 1) nd rfl (by first | exact Or.inl rfl | exact Or.inr rfl) (de_f (df_comp c nd (di_val (de_var (pv 0))) (blkOk_by (N := N_is_rules) (sc := defScope S_is_rules) (own := [("rule", 2)]) (by decide +kernel)) (fun _ _ _ _ _ => (dg_name (i := 2) nd rfl (by first | exact Or.inl rfl | exact Or.inr rfl))) (fun _ _ _ _ _ => dts_nil) (fun _ _ _ _ _ => (de_ix c.blk (dr_var (pv 2)) (dr_e de_int)))))) (dss_one (ds_ret (de_callB (cr_all c.calm) f_all rfl n_all bt_all (da_cons (dr_e (de_f (df_comp c nd (di_val (de_glob v_ONCE rfl)) (blkOk_by (N := N_is_rules) (sc := defScope S_is_rules) (own := [("word", 3)]) (by decide +kernel)) (fun _ _ _ _ _ => (dg_name (i := 3) nd rfl (by first | exact Or.inl rfl | exact Or.inr rfl))) (fun _ _ _ _ _ => dts_nil) (fun _ _ _ _ _ => (de_cmp (op_le2 c.blk) o_le2 (dr_e (de_count c.blk (dr_var (pv 1)) (dr_var (pv 3)))) (dr_e de_int) (by with_unfolding_all rfl)))))) da_nil))))))
theorem has_is_rules {P : Program} {w : World} {K : PySem.W.Frag} {mg : Str → Option Value} {base : Heap} {f : Addr} {fd : FuncData} (D : FnP K "is_rules" S_is_rules f fd) (g : mg "is_rules" = some (.ref f)) (h_is_rule : Has P w K mg base 4 "is_rule" [false] F_is_rule) (v_MOST_RULES : Gv K mg "MOST_RULES" G_MOST_RULES) (v_ONCE : Gv K mg "ONCE" G_ONCE) (n_all : mg "all" = none) (n_len : mg "len" = none) (n_isinstance : mg "isinstance" = none) (n_tuple : mg "tuple" = none) : Has P w K mg base 5 "is_rules" [false] F_is_rules :=
  has_of D (fn_is_rules D h_is_rule v_MOST_RULES v_ONCE n_all n_len n_isinstance n_tuple) g (fun _ _ _ _ _ _ us hl => match us, hl with | [_], _ => rfl)
/-! _law_rules -/
abbrev S__law_rules : Stmt := top 36
abbrev N__law_rules : List Str := ["_law_purse_here", "_law_many", "_law_found", "_law_way", "_law_k"]
theorem sc__law_rules : FnScope N__law_rules ["_law_purse_here", "_law_many"] (defScope S__law_rules) := ⟨rfl, rfl, rfl, by decide +kernel, rfl, by decide +kernel, by decide +kernel⟩
def m__law_rules : SM := (sSeq (sSetO 2 (eComp (iRange1 (eVar 1)) (gNm 4) tYesM (eCall [true, false] false F__law_rule (aCons (rVar 0) (aCons (rOf (eCall [true, false] false F__law_pick (aCons (rVar 0) (aCons (rOf (eC (.int 5))) aNil)))) aNil))) [4])) (sSeq (sFor (iVal (eLst (lCons (eC (.int 5)) (lCons (eC (.int 6)) (lCons (eC (.int 5)) (lCons (eC (.int 6)) lNil)))))) (gNm 3) (sIf (tAndM (tOfE (eOp2 neO (rVar 2) (rOf (eLst lNil)))) (tOfE (eOp2 eqO (rOf (eCall [true, false] false F__law_pick (aCons (rVar 0) (aCons (rOf (eC (.int 3))) aNil)))) (rOf (eC (.int 0)))))) (sSetIx 2 (eCall [true, false] false F__law_rule (aCons (rVar 0) (aCons (rVar 3) aNil))) (eCall [true, false] false F__law_pick (aCons (rVar 0) (aCons (rOf (eCallB lenD (aCons (rVar 2) aNil))) aNil)))) sNil)) (sRet (eCallB tuple3D (aCons (rVar 2) aNil)))))
def F__law_rules : List D → FRes := runF [true, false] 5 m__law_rules
theorem fn__law_rules {P : Program} {w : World} {K : PySem.W.Frag} {mg : Str → Option Value} {base : Heap} {f : Addr} {fd : FuncData} (D : FnP K "_law_rules" S__law_rules f fd)  (h__law_pick : Has P w K mg base 1 "_law_pick" [true, false] F__law_pick) (h__law_rule : Has P w K mg base 4 "_law_rule" [true, false] F__law_rule) (n_range : mg "range" = none) (n_len : mg "len" = none) (n_tuple : mg "tuple" = none) : FnOk P w K mg base (L2.CX P w) 5 f fd ["_law_purse_here", "_law_many"] (spF K mg [true, false] F__law_rules) := by
  refine fn_defD (k := 4) D sc__law_rules rfl fun cdv A outer s H E hr => ?_
  have c := cd_of (X := cxOf (L2.CX P w) P w K mg base N__law_rules "_law_rules" (defScope S__law_rules) f cdv A outer s H E) hr
  have tk := takes_of (X := cxOf (L2.CX P w) P w K mg base N__law_rules "_law_rules" (defScope S__law_rules) f cdv A outer s H E) (E := E) rfl rfl rfl rfl
  have nd := sc__law_rules.nd
  exact (dss_cons (ds_setLcO (i := 2) c nd rfl rfl (sw_true rfl rfl rfl (by decide +kernel)) (di_range1 rfl n_range (de_var (pv 1))) (blkOk_by (N := N__law_rules) (sc := defScope S__law_rules) (own := [("_law_k", 4)]) (by decide +kernel)) (fun _ _ _ _ _ => (dg_name (i := 4) nd rfl (by first | exact Or.inl rfl | exact Or.inr rfl))) (fun _ _ _ _ _ => dts_nil) (fun _ _ _ _ _ => (de_callH h__law_rule hr rfl takes0 (da_cons (dr_var (pv 0)) (da_cons (dr_e (de_callH h__law_pick hr rfl takes0 (da_cons (dr_var (pv 0)) (da_cons (dr_e de_int) da_nil)) (by omega))) da_nil)) (by omega)))) (dss_cons (ds_for c (passes_of rfl) (di_val (de_f (df_lst (dl_cons de_int (dl_cons de_int (dl_cons de_int (dl_cons de_int dl_nil))))))) (dg_name (i := 3) nd rfl (by first | exact Or.inl rfl | exact Or.inr rfl)) (dss_one (ds_if (dt_w (dw_and (dt_cmp (op_ne2 c) o_ne (dr_var (pv 2)) (dr_e (de_f (df_lst dl_nil))) (by with_unfolding_all rfl)) (dw_and1 (dt_cmp (op_eq2 c) o_eq (dr_e (de_callH h__law_pick hr rfl tk (da_cons (dr_var (pv 0)) (da_cons (dr_e de_int) da_nil)) (by omega))) (dr_e de_int) (by with_unfolding_all rfl))))) (dss_one (ds_setIx (i := 2) (pv 2) (de_callH h__law_rule hr rfl tk (da_cons (dr_var (pv 0)) (da_cons (dr_var (pv 3)) da_nil)) (by omega)) (de_callH h__law_pick hr rfl tk (da_cons (dr_var (pv 0)) (da_cons (dr_e (de_callB call_len f_len rfl n_len bt_len (da_cons (dr_var (pv 2)) da_nil))) da_nil)) (by omega)))) dss_nil))) (dss_one (ds_ret (de_callT (call_tup3 c.calm) f_tup3 rfl n_tuple bt_tuple (da_cons (dr_var (pv 2)) da_nil))))))
theorem has__law_rules {P : Program} {w : World} {K : PySem.W.Frag} {mg : Str → Option Value} {base : Heap} {f : Addr} {fd : FuncData} (D : FnP K "_law_rules" S__law_rules f fd) (g : mg "_law_rules" = some (.ref f)) (h__law_pick : Has P w K mg base 1 "_law_pick" [true, false] F__law_pick) (h__law_rule : Has P w K mg base 4 "_law_rule" [true, false] F__law_rule) (n_range : mg "range" = none) (n_len : mg "len" = none) (n_tuple : mg "tuple" = none) : Has P w K mg base 5 "_law_rules" [true, false] F__law_rules :=
  has_of D (fn__law_rules D h__law_pick h__law_rule n_range n_len n_tuple) g (fun _ _ _ _ _ _ us hl => match us, hl with | [_, _], _ => rfl)
/-! _law_right -/
abbrev S__law_right : Stmt := top 37
abbrev N__law_right : List Str := ["_law_x", "_law_turn", "_law_told"]
theorem sc__law_right : FnScope N__law_right ["_law_x"] (defScope S__law_right) := ⟨rfl, rfl, rfl, by decide +kernel, rfl, by decide +kernel, by decide +kernel⟩
def m__law_right : SM := (sSeq (sFor (iRange1 (eC (.int 2))) (gNm 1) (sSeq (sSet 2 (eCall [false] false F_is_rules (aCons (rVar 0) aNil))) (sIf (tOrM (tNotM (tOfE (eIsT .bool (rVar 2)))) (tOfE (eOp2 neO (rVar 2) (rOf (eCall [false] false F__law_is_rules (aCons (rVar 0) aNil)))))) (sRet (eC (.bl false))) sNil))) (sRet (eC (.bl true))))
def F__law_right : List D → FRes := runF [false] 3 m__law_right
theorem fn__law_right {P : Program} {w : World} {K : PySem.W.Frag} {mg : Str → Option Value} {base : Heap} {f : Addr} {fd : FuncData} (D : FnP K "_law_right" S__law_right f fd)  (h_is_rules : Has P w K mg base 5 "is_rules" [false] F_is_rules) (h__law_is_rules : Has P w K mg base 4 "_law_is_rules" [false] F__law_is_rules) (n_range : mg "range" = none) (n_isinstance : mg "isinstance" = none) (n_bool : mg "bool" = none) : FnOk P w K mg base (L2.CX P w) 6 f fd ["_law_x"] (spF K mg [false] F__law_right) := by
  refine fn_defD (k := 5) D sc__law_right rfl fun cdv A outer s H E hr => ?_
  have c := cd_of (X := cxOf (L2.CX P w) P w K mg base N__law_right "_law_right" (defScope S__law_right) f cdv A outer s H E) hr
  have tk := takes_of (X := cxOf (L2.CX P w) P w K mg base N__law_right "_law_right" (defScope S__law_right) f cdv A outer s H E) (E := E) rfl rfl rfl rfl
  have nd := sc__law_right.nd
  exact (dss_cons (ds_for c (passes_of rfl) (di_range1 rfl n_range de_int) (dg_name (i := 1) nd rfl (by first | exact Or.inl rfl | exact Or.inr rfl)) (dss_cons (ds_set (i := 2) nd rfl (by first | exact Or.inl rfl | exact Or.inr rfl) (de_callH h_is_rules hr rfl tk (da_cons (dr_var (pv 0)) da_nil) (by omega))) (dss_one (ds_if (dt_w (dw_or (dt_not (dt_e (de_isT .bool (dr_var (pv 2)) rfl n_isinstance rfl n_bool bt_bool))) (dw_or1 (dt_cmp (op_ne2 c) o_ne (dr_var (pv 2)) (dr_e (de_callH h__law_is_rules hr rfl tk (da_cons (dr_var (pv 0)) da_nil) (by omega))) (by with_unfolding_all rfl))))) (dss_one (ds_ret de_bl)) dss_nil)))) (dss_one (ds_ret de_bl)))
theorem has__law_right {P : Program} {w : World} {K : PySem.W.Frag} {mg : Str → Option Value} {base : Heap} {f : Addr} {fd : FuncData} (D : FnP K "_law_right" S__law_right f fd) (g : mg "_law_right" = some (.ref f)) (h_is_rules : Has P w K mg base 5 "is_rules" [false] F_is_rules) (h__law_is_rules : Has P w K mg base 4 "_law_is_rules" [false] F__law_is_rules) (n_range : mg "range" = none) (n_isinstance : mg "isinstance" = none) (n_bool : mg "bool" = none) : Has P w K mg base 6 "_law_right" [false] F__law_right :=
  has_of D (fn__law_right D h_is_rules h__law_is_rules n_range n_isinstance n_bool) g (fun _ _ _ _ _ _ us hl => match us, hl with | [_], _ => rfl)
/-! _law_turned -/
abbrev S__law_turned : Stmt := top 27
abbrev N__law_turned : List Str := ["_law_purse_here", "_law_thing", "_law_at", "_law_some"]
theorem sc__law_turned : FnScope N__law_turned ["_law_purse_here", "_law_thing"] (defScope S__law_turned) := ⟨rfl, rfl, rfl, by decide +kernel, rfl, by decide +kernel, by decide +kernel⟩
def m__law_turned (Fr : List D → FRes) : SM := (sSeq (sIf (tNotM (tOfE (eIsT .tuple (rVar 1)))) (sRet (eCall [true, false] false F__law_odd (aCons (rVar 0) (aCons (rVar 1) aNil)))) sNil) (sSeq (sSet 2 (eCall [true, false] false F__law_pick (aCons (rVar 0) (aCons (rOf (eOp2 addD (rOf (eCallB lenD (aCons (rVar 1) aNil))) (rOf (eC (.int 1))))) aNil)))) (sSeq (sIf (tAndM (tOfE (eOp2 lt2 (rVar 2) (rOf (eCallB lenD (aCons (rVar 1) aNil))))) (tOfE (eOp2 gt2 (rOf (eCall [true, false] false F__law_pick (aCons (rVar 0) (aCons (rOf (eC (.int 4))) aNil)))) (rOf (eC (.int 0)))))) (sRet (eOp2 addD (rOf (eOp2 addD (rOf (eSl (rVar 1) oNo (oSome (eVar 2)))) (rOf (eTup (lCons (eCall [true, false] false Fr (aCons (rVar 0) (aCons (rOf (eOp2 ixD (rVar 1) (rVar 2))) aNil))) lNil))))) (rOf (eSl (rVar 1) (oSome (eOp2 addD (rVar 2) (rOf (eC (.int 1))))) oNo)))) sNil) (sSeq (sSet 3 (eLst (lCons (eOp2 addD (rOf (eSl (rVar 1) oNo (oSome (eVar 2)))) (rOf (eSl (rVar 1) (oSome (eOp2 addD (rVar 2) (rOf (eC (.int 1))))) oNo))) (lCons (eOp2 addD (rOf (eOp2 addD (rOf (eSl (rVar 1) oNo (oSome (eVar 2)))) (rOf (eSl (rVar 1) (oSome (eVar 2)) (oSome (eOp2 addD (rVar 2) (rOf (eC (.int 1))))))))) (rOf (eSl (rVar 1) (oSome (eVar 2)) oNo))) (lCons (eCallB listD (aCons (rVar 1) aNil)) lNil))))) (sSeq (sSet 3 (eOp2 catD (rVar 3) (rOf (eLst (lCons (eRev (rVar 1)) (lCons (eTup (lCons (eVar 1) lNil)) lNil)))))) (sRet (eOp2 ixD (rOf (eOp2 catD (rVar 3) (rOf (eLst (lCons (eOp2 addD (rOf (eOp2 addD (rOf (eSl (rVar 1) oNo (oSome (eVar 2)))) (rOf (eTup (lCons (eCall [true, false] false F__law_odd (aCons (rVar 0) (aCons (rOf (eC .non)) aNil))) lNil))))) (rOf (eSl (rVar 1) (oSome (eVar 2)) oNo))) (lCons (eTup lNil) lNil)))))) (rOf (eCall [true, false] false F__law_pick (aCons (rVar 0) (aCons (rOf (eC (.int 7))) aNil)))))))))))
def F__law_turned : List D → FRes := recF [true, false] 4 m__law_turned 8
theorem fn__law_turned {P : Program} {w : World} {K : PySem.W.Frag} {mg : Str → Option Value} {base : Heap} {f : Addr} {fd : FuncData} (D : FnP K "_law_turned" S__law_turned f fd) (g : mg "_law_turned" = some (.ref f)) (h__law_odd : Has P w K mg base 2 "_law_odd" [true, false] F__law_odd) (h__law_pick : Has P w K mg base 1 "_law_pick" [true, false] F__law_pick) (n_isinstance : mg "isinstance" = none) (n_tuple : mg "tuple" = none) (n_len : mg "len" = none) (n_list : mg "list" = none) : FnOk P w K mg base (L2.CX P w) 11 f fd ["_law_purse_here", "_law_thing"] (spF K mg [true, false] F__law_turned) := by
  refine fn_recD (k0 := 3) (N := N__law_turned) D sc__law_turned rfl g (fun _ _ _ _ _ _ us hl => match us, hl with | [_, _], _ => rfl) (fun Fr k hk hself cdv A outer s H E hr => ?_) 8
  have c := cd_of (X := cxOf (L2.CX P w) P w K mg base N__law_turned "_law_turned" (defScope S__law_turned) f cdv A outer s H E) hr
  have tk := takes_of (X := cxOf (L2.CX P w) P w K mg base N__law_turned "_law_turned" (defScope S__law_turned) f cdv A outer s H E) (E := E) rfl rfl rfl rfl
  have nd := sc__law_turned.nd
  exact (dss_cons (ds_if (dt_not (dt_e (de_isT .tuple (dr_var (pv 1)) rfl n_isinstance rfl n_tuple bt_tuple))) (dss_one (ds_ret (de_callH h__law_odd hr rfl tk (da_cons (dr_var (pv 0)) (da_cons (dr_var (pv 1)) da_nil)) (by omega)))) dss_nil) (dss_cons (ds_set (i := 2) nd rfl (by first | exact Or.inl rfl | exact Or.inr rfl) (de_callH h__law_pick hr rfl tk (da_cons (dr_var (pv 0)) (da_cons (dr_e (de_op op_add4 o_add (dr_e (de_callB call_len f_len rfl n_len bt_len (da_cons (dr_var (pv 1)) da_nil))) (dr_e de_int))) da_nil)) (by omega))) (dss_cons (ds_if (dt_w (dw_and (dt_cmp (op_lt2 c) o_lt2 (dr_var (pv 2)) (dr_e (de_callB call_len f_len rfl n_len bt_len (da_cons (dr_var (pv 1)) da_nil))) (by with_unfolding_all rfl)) (dw_and1 (dt_cmp (op_gt2 c) o_gt2 (dr_e (de_callH h__law_pick hr rfl tk (da_cons (dr_var (pv 0)) (da_cons (dr_e de_int) da_nil)) (by omega))) (dr_e de_int) (by with_unfolding_all rfl))))) (dss_one (ds_ret (de_op op_add4 o_add (dr_e (de_op op_add4 o_add (dr_e (de_sl (dr_var (pv 1)) do_none (do_some (de_var (pv 2))))) (dr_e (de_tup (dl_cons (de_callH hself hr rfl tk (da_cons (dr_var (pv 0)) (da_cons (dr_e (de_ix c (dr_var (pv 1)) (dr_var (pv 2)))) da_nil)) (by omega)) dl_nil))))) (dr_e (de_sl (dr_var (pv 1)) (do_some (de_op op_add4 o_add (dr_var (pv 2)) (dr_e de_int))) do_none))))) dss_nil) (dss_cons (ds_set (i := 3) nd rfl (by first | exact Or.inl rfl | exact Or.inr rfl) (de_f (df_lst (dl_cons (de_op op_add4 o_add (dr_e (de_sl (dr_var (pv 1)) do_none (do_some (de_var (pv 2))))) (dr_e (de_sl (dr_var (pv 1)) (do_some (de_op op_add4 o_add (dr_var (pv 2)) (dr_e de_int))) do_none))) (dl_cons (de_op op_add4 o_add (dr_e (de_op op_add4 o_add (dr_e (de_sl (dr_var (pv 1)) do_none (do_some (de_var (pv 2))))) (dr_e (de_sl (dr_var (pv 1)) (do_some (de_var (pv 2))) (do_some (de_op op_add4 o_add (dr_var (pv 2)) (dr_e de_int))))))) (dr_e (de_sl (dr_var (pv 1)) (do_some (de_var (pv 2))) do_none))) (dl_cons (de_f (df_callT call_list_of f_list rfl n_list bt_list (da_cons (dr_var (pv 1)) da_nil))) dl_nil)))))) (dss_cons (ds_set (i := 3) nd rfl (by first | exact Or.inl rfl | exact Or.inr rfl) (de_f (df_op op_cat o_cat (dr_var (pv 3)) (dr_e (de_f (df_lst (dl_cons (de_rev (dr_var (pv 1))) (dl_cons (de_tup (dl_cons (de_var (pv 1)) dl_nil)) dl_nil)))))))) (dss_one (ds_ret (de_ix c (dr_e (de_f (df_op op_cat o_cat (dr_var (pv 3)) (dr_e (de_f (df_lst (dl_cons (de_op op_add4 o_add (dr_e (de_op op_add4 o_add (dr_e (de_sl (dr_var (pv 1)) do_none (do_some (de_var (pv 2))))) (dr_e (de_tup (dl_cons (de_callH h__law_odd hr rfl tk (da_cons (dr_var (pv 0)) (da_cons (dr_e de_non) da_nil)) (by omega)) dl_nil))))) (dr_e (de_sl (dr_var (pv 1)) (do_some (de_var (pv 2))) do_none))) (dl_cons (de_tup dl_nil) dl_nil)))))))) (dr_e (de_callH h__law_pick hr rfl tk (da_cons (dr_var (pv 0)) (da_cons (dr_e de_int) da_nil)) (by omega)))))))))))
theorem has__law_turned {P : Program} {w : World} {K : PySem.W.Frag} {mg : Str → Option Value} {base : Heap} {f : Addr} {fd : FuncData} (D : FnP K "_law_turned" S__law_turned f fd) (g : mg "_law_turned" = some (.ref f)) (h__law_odd : Has P w K mg base 2 "_law_odd" [true, false] F__law_odd) (h__law_pick : Has P w K mg base 1 "_law_pick" [true, false] F__law_pick) (n_isinstance : mg "isinstance" = none) (n_tuple : mg "tuple" = none) (n_len : mg "len" = none) (n_list : mg "list" = none) : Has P w K mg base 11 "_law_turned" [true, false] F__law_turned :=
  has_of D (fn__law_turned D g h__law_odd h__law_pick n_isinstance n_tuple n_len n_list) g (fun _ _ _ _ _ _ us hl => match us, hl with | [_, _], _ => rfl)
/-! law -/
abbrev S_law : Stmt := top 39
abbrev N_law : List Str := ["_law_script", "_law_k", "_law_purse_here", "_law_rules_here", "_law_x", "_law_turn"]
theorem sc_law : FnScope N_law ["_law_script"] (defScope S_law) := ⟨rfl, rfl, rfl, by decide +kernel, rfl, by decide +kernel, by decide +kernel⟩
def m_law : SM := (sSeq (sIf (tNotM (tOfE (eCallB allD2 (aCons (rOf (eComp (iVal (eCall0 false F__law_fixed)) (gNm 4) tYesM (eCall [false] false F__law_right (aCons (rVar 4) aNil)) [4])) aNil)))) (sRet (eC (.bl false))) sNil) (sSeq (sFor (iRange1 (eCallB max2D (aCons (rOf (eC (.int 2))) (aCons (rOf (eCallB min2D (aCons (rOf (eC (.int 12))) (aCons (rOf (eCallB lenD (aCons (rVar 0) aNil))) aNil)))) aNil)))) (gNm 1) (sSeq (sSetO 2 (eCall [false] true F__law_purse (aCons (rOf (eCall [false, false] false F__law_cell (aCons (rVar 0) (aCons (rVar 1) aNil)))) aNil))) (sSeq (sSet 3 (eCall [true, false] false F__law_rules (aCons (rVar 2) (aCons (rOf (eOp2 ixD (rOf (eLst (lCons (eC (.int 0)) (lCons (eC (.int 1)) (lCons (eC (.int 2)) (lCons (eC (.int 3)) (lCons (eC (.int 4)) (lCons (eC (.int 12)) (lCons (eC (.int 13)) (lCons (eC (.int 5)) lNil)))))))))) (rOf (eCall [true, false] false F__law_pick (aCons (rVar 2) (aCons (rOf (eC (.int 8))) aNil)))))) aNil)))) (sIf (tOrM (tNotM (tOfE (eCall [false] false F__law_right (aCons (rVar 3) aNil)))) (tNotM (tOfE (eCallB allD2 (aCons (rOf (eComp (iRange1 (eC (.int 5))) (gNm 5) tYesM (eCall [false] false F__law_right (aCons (rOf (eCall [true, false] false F__law_turned (aCons (rVar 2) (aCons (rVar 3) aNil)))) aNil)) [5])) aNil))))) (sRet (eC (.bl false))) sNil)))) (sRet (eC (.bl true)))))
def F_law : List D → FRes := runF [false] 6 m_law
theorem fn_law {P : Program} {w : World} {K : PySem.W.Frag} {mg : Str → Option Value} {base : Heap} {f : Addr} {fd : FuncData} (D : FnP K "law" S_law f fd)  (h__law_fixed : Has P w K mg base 1 "_law_fixed" [] F__law_fixed) (h__law_right : Has P w K mg base 6 "_law_right" [false] F__law_right) (h__law_cell : Has P w K mg base 1 "_law_cell" [false, false] F__law_cell) (h__law_purse : Has P w K mg base 1 "_law_purse" [false] F__law_purse) (h__law_pick : Has P w K mg base 1 "_law_pick" [true, false] F__law_pick) (h__law_rules : Has P w K mg base 5 "_law_rules" [true, false] F__law_rules) (h__law_turned : Has P w K mg base 11 "_law_turned" [true, false] F__law_turned) (n_all : mg "all" = none) (n_range : mg "range" = none) (n_len : mg "len" = none) (n_min : mg "min" = none) (n_max : mg "max" = none) : FnOk P w K mg base (L2.CX P w) 12 f fd ["_law_script"] (spF K mg [false] F_law) := by
  refine fn_defD (k := 11) D sc_law rfl fun cdv A outer s H E hr => ?_
  have c := cd_of (X := cxOf (L2.CX P w) P w K mg base N_law "law" (defScope S_law) f cdv A outer s H E) hr
  have tk := takes_of (X := cxOf (L2.CX P w) P w K mg base N_law "law" (defScope S_law) f cdv A outer s H E) (E := E) rfl rfl rfl rfl
  have nd := sc_law.nd
  exact (dss_cons (ds_if (dt_not (dt_e (de_callB (cr_all c.calm) f_all rfl n_all bt_all (da_cons (dr_e (de_f (df_comp c nd (di_val (de_callH0 h__law_fixed hr rfl tk (by omega))) (blkOk_by (N := N_law) (sc := defScope S_law) (own := [("_law_x", 4)]) (by decide +kernel)) (fun _ _ _ _ _ => (dg_name (i := 4) nd rfl (by first | exact Or.inl rfl | exact Or.inr rfl))) (fun _ _ _ _ _ => dts_nil) (fun _ _ _ _ _ => (de_callH h__law_right hr rfl takes0 (da_cons (dr_var (pv 4)) da_nil) (by omega)))))) da_nil)))) (dss_one (ds_ret de_bl)) dss_nil) (dss_cons (ds_for c (passes_of rfl) (di_range1 rfl n_range (de_callB (call_max2 c.calm) f_max2 rfl n_max bt_max (da_cons (dr_e de_int) (da_cons (dr_e (de_callB (call_min2 c.calm) f_min2 rfl n_min bt_min (da_cons (dr_e de_int) (da_cons (dr_e (de_callB call_len f_len rfl n_len bt_len (da_cons (dr_var (pv 0)) da_nil))) da_nil)))) da_nil)))) (dg_name (i := 1) nd rfl (by first | exact Or.inl rfl | exact Or.inr rfl)) (dss_cons (ds_setO (i := 2) nd rfl (by first | exact Or.inl rfl | exact Or.inr rfl) (df_callH h__law_purse hr rfl tk (da_cons (dr_e (de_callH h__law_cell hr rfl tk (da_cons (dr_var (pv 0)) (da_cons (dr_var (pv 1)) da_nil)) (by omega))) da_nil) (by omega))) (dss_cons (ds_set (i := 3) nd rfl (by first | exact Or.inl rfl | exact Or.inr rfl) (de_callH h__law_rules hr rfl tk (da_cons (dr_var (pv 2)) (da_cons (dr_e (de_ix c (dr_e (de_f (df_lst (dl_cons de_int (dl_cons de_int (dl_cons de_int (dl_cons de_int (dl_cons de_int (dl_cons de_int (dl_cons de_int (dl_cons de_int dl_nil))))))))))) (dr_e (de_callH h__law_pick hr rfl tk (da_cons (dr_var (pv 2)) (da_cons (dr_e de_int) da_nil)) (by omega))))) da_nil)) (by omega))) (dss_one (ds_if (dt_w (dw_or (dt_not (dt_e (de_callH h__law_right hr rfl tk (da_cons (dr_var (pv 3)) da_nil) (by omega)))) (dw_or1 (dt_not (dt_e (de_callB (cr_all c.calm) f_all rfl n_all bt_all (da_cons (dr_e (de_f (df_comp c nd (di_range1 rfl n_range de_int) (blkOk_by (N := N_law) (sc := defScope S_law) (own := [("_law_turn", 5)]) (by decide +kernel)) (fun _ _ _ _ _ => (dg_name (i := 5) nd rfl (by first | exact Or.inl rfl | exact Or.inr rfl))) (fun _ _ _ _ _ => dts_nil) (fun _ _ _ _ _ => (de_callH h__law_right hr rfl takes0 (da_cons (dr_e (de_callH h__law_turned hr rfl takes0 (da_cons (dr_var (pv 2)) (da_cons (dr_var (pv 3)) da_nil)) (by omega))) da_nil) (by omega)))))) da_nil))))))) (dss_one (ds_ret de_bl)) dss_nil))))) (dss_one (ds_ret de_bl))))
theorem has_law {P : Program} {w : World} {K : PySem.W.Frag} {mg : Str → Option Value} {base : Heap} {f : Addr} {fd : FuncData} (D : FnP K "law" S_law f fd) (g : mg "law" = some (.ref f)) (h__law_fixed : Has P w K mg base 1 "_law_fixed" [] F__law_fixed) (h__law_right : Has P w K mg base 6 "_law_right" [false] F__law_right) (h__law_cell : Has P w K mg base 1 "_law_cell" [false, false] F__law_cell) (h__law_purse : Has P w K mg base 1 "_law_purse" [false] F__law_purse) (h__law_pick : Has P w K mg base 1 "_law_pick" [true, false] F__law_pick) (h__law_rules : Has P w K mg base 5 "_law_rules" [true, false] F__law_rules) (h__law_turned : Has P w K mg base 11 "_law_turned" [true, false] F__law_turned) (n_all : mg "all" = none) (n_range : mg "range" = none) (n_len : mg "len" = none) (n_min : mg "min" = none) (n_max : mg "max" = none) : Has P w K mg base 12 "law" [false] F_law :=
  has_of D (fn_law D h__law_fixed h__law_right h__law_cell h__law_purse h__law_pick h__law_rules h__law_turned n_all n_range n_len n_min n_max) g (fun _ _ _ _ _ _ us hl => match us, hl with | [_], _ => rfl)
end NV

set_option Elab.async false
set_option linter.all false
set_option maxRecDepth 100000
set_option maxHeartbeats 4000000
/-! Purse: the drawn numbers, the cells. -/
namespace NV
open PySem PySem.Spec PyProof.Rows L2
def purse (a b c : Int) : D := .lst [.int a, .int b, .int c]
def nextA (a c : Int) : Int := a % 999999937 * (a % 999999937 % 30013 + 20011) + 70001 * (c + 1)
theorem pick_eq (a b c n : Int) (h0 : 0 < n) (h1 : n < 1073741824) : F__law_pick [purse a b c, .int n] =
    if 0 < b then .ok (.int (b % n)) [purse (nextA a c) (b / n) (c + 1)] else .ok (.int (nextA a c % 999999937 / 8 % n)) [purse (nextA a c) b (c + 1)] := by
  have hs : 0 ≤ a % 999999937 ∧ a % 999999937 < 999999937 := ⟨Int.emod_nonneg _ (by decide), Int.emod_lt_of_pos _ (by decide)⟩
  have m1 : mulD (.int (a % 999999937)) (.int (a % 999999937 % 30013 + 20011)) = some (.int (a % 999999937 * (a % 999999937 % 30013 + 20011))) := mulD_int (.inl (by omega))
  have m2 : ∀ c : Int, mulD (.int 70001) (.int c) = some (.int (70001 * c)) := fun c => mulD_int (.inl (by decide))
  have m3 : ∀ a : Int, modD (.int a) (.int 999999937) = some (.int (a % 999999937)) := fun a => modD_int (by decide)
  have m4 : ∀ a : Int, modD (.int a) (.int 30013) = some (.int (a % 30013)) := fun a => modD_int (by decide)
  have m5 : ∀ a : Int, modD (.int a) (.int n) = some (.int (a % n)) := fun a => modD_int h0
  have m6 : ∀ a : Int, fdivD (.int a) (.int n) = some (.int (a / n)) := fun a => fdivD_int h0 h1
  have m7 : ∀ a : Int, fdivD (.int a) (.int 8) = some (.int (a / 8)) := fun a => fdivD_int (by decide) (by decide)
  by_cases hb : 0 < b
  · simp [F__law_pick, m__law_pick, purse, nextA, sSetIx, ixD, L2.atI, ixN, ownSet, m1, m2, m3, m4, m5, m6, m7, hb]
  · simp [F__law_pick, m__law_pick, purse, nextA, sSetIx, ixD, L2.atI, ixN, ownSet, m1, m2, m3, m4, m5, m6, m7, hb]
theorem pick_ok (a b c n : Int) (h0 : 0 < n) (h1 : n < 1073741824) : ∃ a' b' c' r, F__law_pick [purse a b c, .int n] = .ok (.int r) [purse a' b' c'] ∧ 0 ≤ r ∧ r < n := by
  rw [pick_eq a b c n h0 h1]
  split
  · exact ⟨_, _, _, _, rfl, Int.emod_nonneg _ (by omega), Int.emod_lt_of_pos _ h0⟩
  · exact ⟨_, _, _, _, rfl, Int.emod_nonneg _ (by omega), Int.emod_lt_of_pos _ h0⟩
/-- the purse's three numbers -/
structure Pu where
  a : Int
  b : Int
  c : Int
def Pu.d (s : Pu) : D := .lst [.int s.a, .int s.b, .int s.c]
theorem pick_pu (s : Pu) (n : Int) (h0 : 0 < n) (h1 : n < 1073741824) : ∃ (s' : Pu) (r : Int), F__law_pick [s.d, .int n] = .ok (.int r) [s'.d] ∧ 0 ≤ r ∧ r < n := by
  obtain ⟨a, b, c, r, h, h2, h3⟩ := pick_ok s.a s.b s.c n h0 h1
  exact ⟨⟨a, b, c⟩, r, h, h2, h3⟩
/-- the call of it, at slot 0 -/
theorem pick_call (s : Pu) (ρ : Env) (n : Int) (h0 : 0 < n) (h1 : n < 1073741824) : ∃ (s' : Pu) (r : Int), callG [true, false] false F__law_pick [.own 0, .val (.int n)] (.p s.d :: ρ) = .ok (.int r) (.p s'.d :: ρ) ∧ 0 ≤ r ∧ r < n := by
  obtain ⟨s', r, h, h2, h3⟩ := pick_pu s n h0 h1
  exact ⟨s', r, call_own (i := 0) rfl rfl h rfl, h2, h3⟩
theorem cell_ok (ns : List Int) (k : Int) (h0 : 0 ≤ k) (h1 : k < 1000) : ∃ v, F__law_cell [.scr ns, .int k] = .ok (.int v) [] := by
  by_cases hk : k < ns.length
  · have ix : ∃ v, ixD (.scr ns) (.int k) = some (.int v) := by
      have hl : k.toNat < ns.length := by omega
      refine ⟨ns[k.toNat], ?_⟩
      show (L2.atI ns k).map D.int = _
      simp [L2.atI, ixN, h0, hk, List.getElem?_eq_getElem hl]
    obtain ⟨v, ix⟩ := ix
    exact ⟨v, by simp [F__law_cell, m__law_cell, lenD, hk, ix]⟩
  · have m1 : mulD (.int k) (.int k) = some (.int (k * k)) := mulD_int (.inl (by omega))
    have m2 : ∀ j : Int, mulD (.int 5) (.int j) = some (.int (5 * j)) := fun j => mulD_int (.inl (by decide))
    have m3 : ∀ j : Int, mulD (.int 60013) (.int j) = some (.int (60013 * j)) := fun j => mulD_int (.inl (by decide))
    have m4 : ∀ a : Int, modD (.int a) (.int 1000000007) = some (.int (a % 1000000007)) := fun a => modD_int (by decide)
    have m5 : ∀ j : Int, mulD (.int j) (.int 30011) = some (.int (j * 30011)) := fun j => mulD_int (.inr (by decide))
    have sl : slD (.scr ns) none (some 4) = some (.lst ((cutL ns none (some 4)).map D.int)) := rfl
    obtain ⟨ρ', e, st, x, he⟩ := for_inv (g := gNm 3) (body := sSet 2 (eOp2 modD (rOf (eOp2 addD (rOf (eOp2 mulD (rVar 2) (rOf (eC (.int 30011))))) (rVar 3))) (rOf (eC (.int 1000000007))))) (fun ρ => ∃ (st : Int) (x : Slot), ρ = [.v (.scr ns), .v (.int k), .v (.int st), x]) ((cutL ns none (some 4)).map D.int)
      (fun d hd ρ ⟨st, x, hr⟩ => by
        obtain ⟨i, _, rfl⟩ := List.mem_map.mp hd
        subst hr
        exact ⟨_, [.v (.scr ns), .v (.int k), .v (.int ((st * 30011 + i) % 1000000007)), .v (.int i)], rfl, .inl (by simp [m4, m5]), _, _, rfl⟩) [.v (.scr ns), .v (.int k), .v (.int (60013 * (k * k + 5 * k + 3) % 1000000007)), .no] ⟨_, _, rfl⟩
    subst he
    exact ⟨st, by simp [F__law_cell, m__law_cell, lenD, hk, m1, m2, m3, m4, eSl, oNo, oSome, asI, sl, e]⟩
theorem purse_ok (v : Int) : ∃ s : Pu, F__law_purse [.int v] = .okF s.d [] := by
  have m1 : ∀ a : Int, modD (.int a) (.int 999999937) = some (.int (a % 999999937)) := fun a => modD_int (by decide)
  have m2 : ∀ j : Int, mulD (.int j) (.int 7907) = some (.int (j * 7907)) := fun j => mulD_int (.inr (by decide))
  have m3 : powD (.int 10) (.int 18) = some (.int (10 ^ 18)) := by
    show (if CPow 10 18 then _ else none) = _
    rw [if_pos ⟨by decide, by decide, by decide⟩]
    rfl
  by_cases h : (1000000000000000000 : Int) ≤ v
  · exact ⟨⟨v % 999999937 * 7907 + 4409, v, 0⟩, by simp [F__law_purse, m__law_purse, m1, m2, m3, intD, h, ixD, L2.atI, ixN, Pu.d]⟩
  · exact ⟨⟨v % 999999937 * 7907 + 4409, 0, 0⟩, by simp [F__law_purse, m__law_purse, m1, m2, m3, intD, h, ixD, L2.atI, ixN, Pu.d]⟩
end NV

set_option Elab.async false
set_option linter.all false
set_option maxRecDepth 100000
set_option maxHeartbeats 4000000
namespace NV
open PySem PySem.Spec PyProof.Rows L2
def LET : Str := "abcdefghijklmnopqrstuvwxyz"
def signOk (x : Str) : Bool := x.cps.toList.all fun c => inS ⟨#[c]⟩ LET
def nameS (x : Str) : Bool := decide ((1 : Int) ≤ (x.length : Int)) && decide ((x.length : Int) ≤ 8) && signOk x
def nameB : D → Bool
  | .str x => nameS x
  | _ => false
def noExn : D → Bool
  | .exn _ _ => false
  | _ => true
theorem comp_D {mt : TM} {me : EM} {i : Nat} (e : Slot → Env) (hset : ∀ x y, (e x).set i y = e y) (ds : List D) (f : D → D) (ht : ∀ d ∈ ds, mt (e (.v d)) = .ok true (e (.v d))) (he : ∀ d ∈ ds, me (e (.v d)) = .ok (f d) (e (.v d))) (x : Slot) :
    ∃ y, compL (gNm i) mt me [i] ds [] (e x) = .ok (ds.map f) (e y) := by
  obtain ⟨y, h⟩ := comp_pure e hset (fun _ => true) f ds ht (fun d hd _ => he d hd) [] x
  refine ⟨y, ?_⟩
  rw [h, List.filter_eq_self.mpr fun _ _ => rfl, List.nil_append]
theorem blsOf_map {α : Type} (l : List α) (p : α → Bool) : blsOf (l.map fun a => D.bl (p a)) = some (l.map p) := by
  induction l with
  | nil => rfl
  | cons a l ih =>
    show (blsOf (l.map fun a => D.bl (p a))).map _ = _
    rw [ih]
    rfl
theorem all_map {α : Type} (l : List α) (p : α → Bool) : allD2 [.lst (l.map fun a => D.bl (p a))] = some (.bl (l.all p)) := by
  show (blsOf (l.map fun a => D.bl (p a))).map _ = _
  rw [blsOf_map]
  simp [List.all_map]
theorem in_sign (c : Nat) (z : Str) : inD (.str ⟨#[c]⟩) (.str z) = some (.bl (inS ⟨#[c]⟩ z)) := rfl
theorem is_name_eq (d : D) (hd : noExn d = true) : F_is_name [d] = .ok (.bl (nameB d)) [] := by
  cases d with
  | str x =>
    obtain ⟨y, e⟩ := comp_D (mt := tYesM) (me := eOp2 inD (rVar 1) (rOf (eC G_LETTERS))) (i := 1) (fun s => [.v (.str x), s]) (fun _ _ => rfl) (x.cps.toList.map fun c => D.str ⟨#[c]⟩) (fun d => match d with
      | .str z => .bl (inS z LET)
      | _ => .non) (fun d _ => by simp) (fun d hd => by
        obtain ⟨c, _, rfl⟩ := List.mem_map.mp hd
        simp [G_LETTERS, in_sign]
        rfl) .no
    rw [List.map_map] at e
    have it : itemsD (.str x) = some (x.cps.toList.map fun c => D.str ⟨#[c]⟩) := rfl
    have al : allD2 [.lst (x.cps.toList.map fun c => D.bl (inS ⟨#[c]⟩ LET))] = some (.bl (signOk x)) := all_map x.cps.toList fun c => inS ⟨#[c]⟩ LET
    have e' : compL (gNm 1) tYesM (eOp2 inD (rVar 1) (rOf (eC G_LETTERS))) [1] (x.cps.toList.map fun c => D.str ⟨#[c]⟩) [] [.v (.str x), .no] = .ok (x.cps.toList.map fun c => D.bl (inS ⟨#[c]⟩ LET)) [.v (.str x), y] := e
    by_cases h1 : (1 : Int) ≤ (x.length : Int)
    · by_cases h2 : (x.length : Int) ≤ 8
      · simp [F_is_name, m_is_name, isT, lenD, G_MOST_LETTERS, it, e', al, nameB, nameS, h1, h2, backE, wipeE, keepV]
      · simp [F_is_name, m_is_name, isT, lenD, G_MOST_LETTERS, nameB, nameS, h1, h2]
    · simp [F_is_name, m_is_name, isT, lenD, G_MOST_LETTERS, nameB, nameS, h1]
  | exn _ _ => cases hd
  | _ => simp [F_is_name, m_is_name, isT, nameB]
end NV

set_option Elab.async false
set_option linter.all false
set_option maxRecDepth 100000
set_option maxHeartbeats 4000000
namespace NV
open PySem PySem.Spec PyProof.Rows L2
theorem law_is_name_eq (d : D) (hd : noExn d = true) : F__law_is_name [d] = .ok (.bl (nameB d)) [] := by
  cases d with
  | str x =>
    obtain ⟨y, e⟩ := comp_D (mt := tYesM) (me := eOp2 inD (rVar 1) (rOf (eC (.str "abcdefghijklmnopqrstuvwxyz")))) (i := 1) (fun s => [.v (.str x), s]) (fun _ _ => rfl) (x.cps.toList.map fun c => D.str ⟨#[c]⟩) (fun d => match d with
      | .str z => .bl (inS z LET)
      | _ => .non) (fun d _ => by simp) (fun d hd => by
        obtain ⟨c, _, rfl⟩ := List.mem_map.mp hd
        simp [in_sign]
        rfl) .no
    rw [List.map_map] at e
    have it : itemsD (.str x) = some (x.cps.toList.map fun c => D.str ⟨#[c]⟩) := rfl
    have al : allD2 [.lst (x.cps.toList.map fun c => D.bl (inS ⟨#[c]⟩ LET))] = some (.bl (signOk x)) := all_map x.cps.toList fun c => inS ⟨#[c]⟩ LET
    have e' : compL (gNm 1) tYesM (eOp2 inD (rVar 1) (rOf (eC (.str "abcdefghijklmnopqrstuvwxyz")))) [1] (x.cps.toList.map fun c => D.str ⟨#[c]⟩) [] [.v (.str x), .no] = .ok (x.cps.toList.map fun c => D.bl (inS ⟨#[c]⟩ LET)) [.v (.str x), y] := e
    by_cases h1 : (0 : Int) < (x.length : Int)
    · have h1' : (1 : Int) ≤ (x.length : Int) := by omega
      have h1n : 0 < x.length := by omega
      by_cases h2 : (x.length : Int) < 9
      · have h2' : (x.length : Int) ≤ 8 := by omega
        simp [F__law_is_name, m__law_is_name, isT, lenD, it, e', al, nameB, nameS, h1n, h1, h2, h1', h2', backE, wipeE, keepV]
      · have h2' : ¬ (x.length : Int) ≤ 8 := by omega
        simp [F__law_is_name, m__law_is_name, isT, lenD, nameB, nameS, h1n, h1, h2, h1', h2']
    · have h1' : ¬ (1 : Int) ≤ (x.length : Int) := by omega
      have h1n : ¬ 0 < x.length := by omega
      simp [F__law_is_name, m__law_is_name, isT, lenD, nameB, nameS, h1n, h1, h1']
  | exn _ _ => cases hd
  | _ => simp [F__law_is_name, m__law_is_name, isT, nameB]
theorem name_call (d : D) (hd : noExn d = true) (ρ : Env) : callG [false] false F_is_name [.val d] ρ = .ok (.bl (nameB d)) ρ := call_val rfl rfl (is_name_eq d hd) (.inl rfl)
theorem lname_call (d : D) (hd : noExn d = true) (ρ : Env) : callG [false] false F__law_is_name [.val d] ρ = .ok (.bl (nameB d)) ρ := call_val rfl rfl (law_is_name_eq d hd) (.inl rfl)
theorem eqD_str (x y : Str) : eqD (.str x) (.str y) = decide (x = y) := by
  unfold eqD
  simp only [toPy, PyData.eqv]
  by_cases h : x = y <;> simp [h]
theorem okL_strs (n : Nat) : ∀ l : List Str, okL n (l.map D.str) = true
  | [] => by cases n <;> rfl
  | i :: l => by
    show (okD n (.str i) && okL n (l.map D.str)) = true
    rw [okL_strs n l]
    cases n <;> rfl
theorem any_strs (k : Str) : ∀ l : List Str, anyD (.str k) (l.map D.str) = decide (k ∈ l)
  | [] => rfl
  | i :: l => by
    have ih := any_strs k l
    unfold anyD at ih ⊢
    rw [List.map_cons, List.any_cons, ih, eqD_str]
    by_cases h : i = k
    · subst h; simp
    · have h' : ¬ k = i := fun z => h z.symm
      by_cases h2 : k ∈ l <;> simp [h, h', h2]
theorem in_strs (k : Str) (l : List Str) : inD (.str k) (.tup (l.map D.str)) = some (.bl (decide (k ∈ l))) := by
  show ((if okD 60 (.str k) = true ∧ okL 60 (l.map D.str) = true then some (anyD (.str k) (l.map D.str)) else none).map D.bl) = _
  rw [if_pos ⟨rfl, okL_strs 60 l⟩, any_strs]
  rfl
theorem in_strsL (k : Str) (l : List Str) : inD (.str k) (.lst (l.map D.str)) = some (.bl (decide (k ∈ l))) := by
  show ((if okD 60 (.str k) = true ∧ okL 60 (l.map D.str) = true then some (anyD (.str k) (l.map D.str)) else none).map D.bl) = _
  rw [if_pos ⟨rfl, okL_strs 60 l⟩, any_strs]
  rfl
theorem notIn_strs (k : Str) (l : List Str) : notInD (.str k) (.tup (l.map D.str)) = some (.bl (!decide (k ∈ l))) := by
  show ((if okD 60 (.str k) = true ∧ okL 60 (l.map D.str) = true then some (anyD (.str k) (l.map D.str)) else none).map fun b => D.bl (!b)) = _
  rw [if_pos ⟨rfl, okL_strs 60 l⟩, any_strs]
  rfl
theorem notIn_strsL (k : Str) (l : List Str) : notInD (.str k) (.lst (l.map D.str)) = some (.bl (!decide (k ∈ l))) := by
  show ((if okD 60 (.str k) = true ∧ okL 60 (l.map D.str) = true then some (anyD (.str k) (l.map D.str)) else none).map fun b => D.bl (!b)) = _
  rw [if_pos ⟨rfl, okL_strs 60 l⟩, any_strs]
  rfl
theorem cut_to {α : Type} (xs : List α) (i : Nat) : cutL xs none (some (i : Int)) = xs.take i := by
  unfold cutL
  rw [HT.sIx_none, HT.sIx_nat, List.drop_zero, Nat.sub_zero]
  by_cases h : i ≤ xs.length
  · rw [Nat.min_eq_left h]
  · rw [Nat.min_eq_right (by omega), List.take_of_length_le (Nat.le_refl _), List.take_of_length_le (by omega)]
theorem cut_from {α : Type} (xs : List α) (i : Nat) : cutL xs (some (i : Int)) none = xs.drop i := by
  unfold cutL
  rw [HT.sIx_none, HT.sIx_nat]
  by_cases h : i ≤ xs.length
  · rw [Nat.min_eq_left h, List.take_of_length_le (by rw [List.length_drop]; exact Nat.le_refl _)]
  · rw [Nat.min_eq_right (by omega), List.drop_of_length_le (Nat.le_refl _), List.drop_of_length_le (show xs.length ≤ i by omega)]
    simp
theorem ix_tup (xs : List D) (i : Nat) (h : i < xs.length) : ixD (.tup xs) (.int (i : Int)) = some xs[i] := by
  show L2.atI xs (i : Int) = _
  unfold L2.atI ixN
  rw [if_pos (Int.natCast_nonneg i), if_pos (by omega)]
  simp [List.getElem?_eq_getElem h]
theorem ix_lst (xs : List D) (i : Nat) (h : i < xs.length) : ixD (.lst xs) (.int (i : Int)) = some xs[i] := by
  show L2.atI xs (i : Int) = _
  unfold L2.atI ixN
  rw [if_pos (Int.natCast_nonneg i), if_pos (by omega)]
  simp [List.getElem?_eq_getElem h]
theorem rng_nat {n : Nat} (h : n ≤ 16777216) : rng1 (.int (n : Int)) = some ((List.range n).map fun i => D.int ((i : Nat) : Int)) := by
  show (if (n : Int) ≤ 16777216 ∧ -(2 ^ 62 : Int) ≤ n then some (rngD 0 (n : Int).toNat) else none) = _
  rw [if_pos ⟨by omega, by omega⟩]
  unfold rngD
  simp
/-- a comprehension over 0 .. n - 1 -/
theorem comp_rng {mt : TM} {me : EM} {i : Nat} (e : Slot → Env) (hset : ∀ x y, (e x).set i y = e y) (n : Nat) (f : Nat → D) (ht : ∀ k, k < n → mt (e (.v (.int (k : Int)))) = .ok true (e (.v (.int (k : Int))))) (he : ∀ k, k < n → me (e (.v (.int (k : Int)))) = .ok (f k) (e (.v (.int (k : Int))))) (x : Slot) :
    ∃ y, compL (gNm i) mt me [i] ((List.range n).map fun i => D.int ((i : Nat) : Int)) [] (e x) = .ok ((List.range n).map f) (e y) := by
  obtain ⟨y, h⟩ := comp_D (mt := mt) (me := me) e hset ((List.range n).map fun i => D.int ((i : Nat) : Int)) (fun d => f (toI d).toNat) (fun d hd => by
    obtain ⟨k, hk, rfl⟩ := List.mem_map.mp hd
    exact ht k (List.mem_range.mp hk)) (fun d hd => by
    obtain ⟨k, hk, rfl⟩ := List.mem_map.mp hd
    exact he k (List.mem_range.mp hk)) x
  refine ⟨y, ?_⟩
  rw [h, List.map_map]
  have e2 : ((fun d => f (toI d).toNat) ∘ fun (i : Nat) => D.int ((i : Nat) : Int)) = f := by
    funext k
    simp [toI]
  rw [e2]
theorem whole_call (d : D) (hd : noExn d = true) (ρ : Env) : callG [false] false F_is_whole [.val d] ρ = .ok (.bl (match d with | .int _ => true | _ => false)) ρ := by
  refine call_val rfl rfl ?_ (.inl rfl)
  cases d <;> first | (simp [F_is_whole, m_is_whole, isT]; done) | cases hd
def kindB (d : D) : Bool := nameB d && (match d with
  | .str x => !decide (x = "any") && !decide (x = "fresh")
  | _ => false)
theorem kind_call (d : D) (hd : noExn d = true) (ρ : Env) : callG [false] false F_is_kind [.val d] ρ = .ok (.bl (kindB d)) ρ := by
  refine call_val rfl rfl ?_ (.inl rfl)
  cases h : nameB d with
  | false => simp [F_is_kind, m_is_kind, name_call d hd, h, kindB]
  | true =>
    cases d with
    | str x =>
      have hw : notInD (.str x) G_WIDE = some (.bl (!decide (x ∈ (["any", "fresh"] : List Str)))) := notIn_strs x ["any", "fresh"]
      simp [F_is_kind, m_is_kind, name_call (.str x) hd, h, kindB, hw]
    | _ => cases h
end NV

set_option Elab.async false
set_option linter.all false
set_option maxRecDepth 100000
set_option maxHeartbeats 4000000
namespace NV
open PySem PySem.Spec PyProof.Rows L2
def betB (lo hi : Int) : D → Bool
  | .int i => decide (lo ≤ i) && decide (i ≤ hi)
  | _ => false
theorem between_call (d : D) (lo hi : Int) (hd : noExn d = true) (ρ : Env) : callG [false, false, false] false F_is_between [.val d, .val (.int lo), .val (.int hi)] ρ = .ok (.bl (betB lo hi d)) ρ := by
  refine call_val rfl rfl ?_ (.inl rfl)
  cases d with
  | int i => by_cases h1 : lo ≤ i <;> by_cases h2 : i ≤ hi <;> simp [F_is_between, m_is_between, whole_call (.int i) rfl, betB, h1, h2]
  | exn _ _ => cases hd
  | _ => simp [F_is_between, m_is_between, whole_call _ hd, betB]
theorem within_call (d : D) (lo hi : Int) (hd : noExn d = true) (ρ : Env) : callG [false, false, false] false F__law_within [.val d, .val (.int lo), .val (.int hi)] ρ = .ok (.bl (betB lo hi d)) ρ := by
  refine call_val rfl rfl ?_ (.inl rfl)
  cases d with
  | int i => by_cases h1 : lo ≤ i <;> by_cases h2 : i ≤ hi <;> simp [F__law_within, m__law_within, isT, betB, h1, h2]
  | exn _ _ => cases hd
  | _ => simp [F__law_within, m__law_within, isT, betB]
theorem eqO_ss (x y : Str) : eqO (.str x) (.str y) = some (.bl (decide (x = y))) := by
  show (if okD 60 (.str x) = true ∧ okD 60 (.str y) = true then some (D.bl (eqD (.str x) (.str y))) else none) = _
  rw [if_pos ⟨rfl, rfl⟩, eqD_str]
theorem neO_ss (x y : Str) : neO (.str x) (.str y) = some (.bl (!decide (x = y))) := by
  show (if okD 60 (.str x) = true ∧ okD 60 (.str y) = true then some (D.bl (!eqD (.str x) (.str y))) else none) = _
  rw [if_pos ⟨rfl, rfl⟩, eqD_str]
theorem lkind_call (d : D) (hd : noExn d = true) (ρ : Env) : callG [false] false F__law_is_kind [.val d] ρ = .ok (.bl (kindB d)) ρ := by
  refine call_val rfl rfl ?_ (.inl rfl)
  cases h : nameB d with
  | false => simp [F__law_is_kind, m__law_is_kind, lname_call d hd, h, kindB]
  | true =>
    cases d with
    | str x =>
      have n1 := neO_ss x "any"
      have n2 := neO_ss x "fresh"
      have kb : kindB (.str x) = (nameB (.str x) && (!decide (x = "any") && !decide (x = "fresh"))) := rfl
      rw [h] at kb
      generalize decide (x = "any") = b1 at n1 kb
      generalize decide (x = "fresh") = b2 at n2 kb
      rw [kb]
      cases b1 <;> cases b2 <;> simp [F__law_is_kind, m__law_is_kind, lname_call (.str x) hd, h, n1, n2]
    | _ => cases h
def okTup : D → Bool
  | .tup xs => xs.all noExn && decide (xs.length < 60)
  | d => noExn d
theorem okTup_noExn {d : D} (h : okTup d = true) : noExn d = true := by
  cases d <;> first | rfl | exact h
/-! ### words -/
def wordsB : D → Bool
  | .tup xs => decide ((1 : Int) ≤ (xs.length : Int)) && (decide ((xs.length : Int) ≤ 8) && xs.all nameB)
  | _ => false
theorem word_eq (d : D) : (kindB d || (match d with
  | .str x => decide (x ∈ (["any", "fresh"] : List Str))
  | _ => false)) = nameB d := by
  cases d with
  | str x =>
    by_cases h1 : x = "any"
    · subst h1; decide +kernel
    · by_cases h2 : x = "fresh"
      · subst h2; decide +kernel
      · simp [kindB, h1, h2]
  | _ => rfl
theorem are_words_eq (d : D) (hd : okTup d = true) : F_are_words [d] = .ok (.bl (wordsB d)) [] := by
  cases d with
  | tup xs =>
    have hd' := hd
    unfold okTup at hd'
    rw [Bool.and_eq_true] at hd'
    obtain ⟨y, e⟩ := comp_D (mt := tYesM) (me := eOr (eCall [false] false F_is_kind (aCons (rVar 1) aNil)) (eAnd (eIsT .str (rVar 1)) (eOp2 inD (rVar 1) (rOf (eC G_WIDE))))) (i := 1) (fun s => [.v (.tup xs), s]) (fun _ _ => rfl) xs (fun d => .bl (nameB d)) (fun d _ => by simp) (fun d hd => by
      have k := kind_call d (List.all_eq_true.mp hd'.1 d hd)
      have w := word_eq d
      cases hk : kindB d with
      | true =>
        rw [hk, Bool.true_or] at w
        simp [k, hk, ← w]
      | false =>
        rw [hk, Bool.false_or] at w
        cases d with
        | str x =>
          have hw : inD (.str x) G_WIDE = some (.bl (decide (x ∈ (["any", "fresh"] : List Str)))) := in_strs x ["any", "fresh"]
          rw [← w]
          simp [k, hk, isT, hw]
        | exn _ _ => exact absurd (List.all_eq_true.mp hd'.1 _ hd) (by simp [noExn])
        | _ => rw [← w]; simp [k, hk, isT]) .no
    have al : allD2 [.lst (xs.map fun d => D.bl (nameB d))] = some (.bl (xs.all nameB)) := all_map xs nameB
    by_cases h1 : (1 : Int) ≤ (xs.length : Int)
    · by_cases h2 : (xs.length : Int) ≤ 8
      · simp [F_are_words, m_are_words, isT, lenD, G_MOST_WORDS, h1, h2, e, al, backE, wipeE, keepV, wordsB]
      · simp [F_are_words, m_are_words, isT, lenD, G_MOST_WORDS, h1, h2, wordsB]
    · simp [F_are_words, m_are_words, isT, lenD, G_MOST_WORDS, h1, wordsB]
  | exn _ _ => cases hd
  | _ => simp [F_are_words, m_are_words, isT, wordsB]
/-! ### days -/
def daysB : D → Bool
  | .tup xs => !xs.isEmpty && (xs.all (betB 0 6) && decide ((xs.map toI).Pairwise (· < ·)))
  | _ => false
theorem bet_ints {lo hi : Int} : ∀ {xs : List D}, xs.all (betB lo hi) = true → xs = (xs.map toI).map D.int
  | [], _ => rfl
  | d :: xs, h => by
    rw [List.all_cons, Bool.and_eq_true] at h
    rw [List.map_cons, List.map_cons, ← bet_ints h.2]
    cases d with
    | int i => rfl
    | _ => cases h.1
theorem chain_pw : ∀ l : List Int, ((List.range (l.length - 1)).all fun k => decide (l.getD k 0 < l.getD (k + 1) 0)) = decide (l.Pairwise (· < ·)) := by
  intro l
  rw [Bool.eq_iff_iff, List.all_eq_true, decide_eq_true_iff]
  induction l with
  | nil => simp
  | cons a l ih =>
    cases l with
    | nil => simp
    | cons b l =>
      rw [List.pairwise_cons, ← ih]
      constructor
      · intro h
        have hab : a < b := by simpa using h 0 (by simp)
        have t : ∀ k ∈ List.range ((b :: l).length - 1), decide ((b :: l).getD k 0 < (b :: l).getD (k + 1) 0) = true := fun k hk => by
          have := h (k + 1) (by simp at hk ⊢; omega)
          simpa using this
        refine ⟨fun y hy => ?_, t⟩
        have pw := ih.mp t
        rcases List.mem_cons.mp hy with e | hy
        · subst e; exact hab
        · exact Int.lt_trans hab ((List.pairwise_cons.mp pw).1 y hy)
      · rintro ⟨h1, h2⟩ k hk
        cases k with
        | zero => simpa using h1 b List.mem_cons_self
        | succ k =>
          have := h2 k (by simp at hk ⊢; omega)
          simpa using this
theorem sortU_fix (l : List Int) : (l = sortU l) ↔ l.Pairwise (· < ·) :=
  ⟨fun e => e ▸ sortU_sorted l, fun h => lt_unique h (sortU_sorted l) fun k => (sortU_mem l k).symm⟩
end NV

set_option Elab.async false
set_option linter.all false
set_option maxRecDepth 100000
set_option maxHeartbeats 4000000
namespace NV
open PySem PySem.Spec PyProof.Rows L2
theorem eqO_iL (l m : List Int) : eqO (.lst (l.map D.int)) (.lst (m.map D.int)) = some (.bl (decide (l = m))) := by
  show (if okD 60 (.lst (l.map D.int)) = true ∧ okD 60 (.lst (m.map D.int)) = true then some (D.bl (eqD (.lst (l.map D.int)) (.lst (m.map D.int)))) else none) = _
  rw [if_pos ⟨okL_ints 59 l, okL_ints 59 m⟩, eqD_iL]
theorem are_days_eq (d : D) (hd : okTup d = true) : F_are_days [d] = .ok (.bl (daysB d)) [] := by
  cases d with
  | tup xs =>
    have hd' := hd
    unfold okTup at hd'
    rw [Bool.and_eq_true] at hd'
    have few := of_decide_eq_true hd'.2
    have e0 : eqO (.tup xs) (.tup []) = some (.bl xs.isEmpty) := rfl
    cases ne : xs.isEmpty with
    | true => simp [F_are_days, m_are_days, isT, e0, ne, daysB]
    | false =>
    have hlen : 1 ≤ xs.length := by
      cases xs with
      | nil => cases ne
      | cons _ _ => simp
    obtain ⟨y, e⟩ := comp_D (mt := tYesM) (me := eCall [false, false, false] false F_is_between (aCons (rVar 2) (aCons (rOf (eC (.int 0))) (aCons (rOf (eC (.int 6))) aNil)))) (i := 2) (fun s => [.v (.tup xs), .no, s]) (fun _ _ => rfl) xs (fun d => .bl (betB 0 6 d)) (fun d _ => by simp) (fun d hd => by
      simp [between_call d 0 6 (List.all_eq_true.mp hd'.1 d hd)]) .no
    have al : allD2 [.lst (xs.map fun d => D.bl (betB 0 6 d))] = some (.bl (xs.all (betB 0 6))) := all_map xs (betB 0 6)
    cases h3 : xs.all (betB 0 6) with
    | false => simp [F_are_days, m_are_days, isT, e0, ne, e, al, h3, backE, wipeE, keepV, daysB]
    | true =>
      have hs := bet_ints h3
      obtain ⟨l, hl⟩ : ∃ l, l = xs.map toI := ⟨_, rfl⟩
      have hll : l.length = xs.length := by rw [hl, List.length_map]
      rw [← hl] at hs
      have it : ∀ k, k < xs.length → ixD (.tup xs) (.int (k : Int)) = some (.int (l.getD k 0)) := fun k hk => by
        rw [ix_tup xs k hk]
        have hk2 : k < l.length := by omega
        rw [List.getD_eq_getElem?_getD, List.getElem?_eq_getElem hk2, Option.getD_some]
        have : xs[k]? = some (D.int l[k]) := by rw [hs, List.getElem?_map, List.getElem?_eq_getElem hk2]; rfl
        rw [List.getElem?_eq_getElem hk] at this
        exact this
      obtain ⟨y2, e2⟩ := comp_rng (mt := tYesM) (me := eOp2 lt2 (rOf (eOp2 ixD (rVar 0) (rVar 1))) (rOf (eOp2 ixD (rVar 0) (rOf (eOp2 addD (rVar 1) (rOf (eC (.int 1)))))))) (i := 1) (fun s => [.v (.tup xs), s, .no]) (fun _ _ => rfl) (l.length - 1) (fun k => .bl (decide (l.getD k 0 < l.getD (k + 1) 0))) (fun k _ => by simp) (fun k hk => by
        have i1 := it k (by omega)
        have i2 := it (k + 1) (by omega)
        push_cast at i2
        simp only [List.getD_eq_getElem?_getD] at i1 i2 ⊢
        simp [i1, i2]) .no
      have al2 : allD2 [.lst ((List.range (l.length - 1)).map fun k => D.bl (decide (l.getD k 0 < l.getD (k + 1) 0)))] = some (.bl (decide (l.Pairwise (· < ·)))) := by
        rw [all_map, chain_pw]
      simp only [List.getD_eq_getElem?_getD] at al2 e2
      have rg := rng_nat (n := l.length - 1) (by omega)
      have rg' : rng1 (.int ((xs.length : Int) - 1)) = some ((List.range (l.length - 1)).map fun i => D.int ((i : Nat) : Int)) := by
        rw [← rg]
        congr 2
        omega
      simp [F_are_days, m_are_days, isT, lenD, e0, ne, e, al, h3, backE, wipeE, keepV, rg', e2, al2, daysB, ← hl]
  | exn _ _ => cases hd
  | _ => simp [F_are_days, m_are_days, isT, daysB]
theorem law_days_eq (d : D) (hd : okTup d = true) : F__law_are_days [d] = .ok (.bl (daysB d)) [] := by
  cases d with
  | tup xs =>
    have hd' := hd
    unfold okTup at hd'
    rw [Bool.and_eq_true] at hd'
    have few := of_decide_eq_true hd'.2
    have n0 : neO (.tup xs) (.tup []) = some (.bl (!xs.isEmpty)) := rfl
    obtain ⟨y, e⟩ := comp_D (mt := tYesM) (me := eCall [false, false, false] false F__law_within (aCons (rVar 1) (aCons (rOf (eC (.int 0))) (aCons (rOf (eC (.int 6))) aNil)))) (i := 1) (fun s => [.v (.tup xs), s]) (fun _ _ => rfl) xs (fun d => .bl (betB 0 6 d)) (fun d _ => by simp) (fun d hd => by
      simp [within_call d 0 6 (List.all_eq_true.mp hd'.1 d hd)]) .no
    have al : allD2 [.lst (xs.map fun d => D.bl (betB 0 6 d))] = some (.bl (xs.all (betB 0 6))) := all_map xs (betB 0 6)
    cases h3 : xs.all (betB 0 6) with
    | false => simp [F__law_are_days, m__law_are_days, isT, e, al, h3, backE, wipeE, keepV, daysB]
    | true =>
      cases h4 : xs.isEmpty with
      | true => simp [F__law_are_days, m__law_are_days, isT, e, al, h3, n0, h4, backE, wipeE, keepV, daysB]
      | false =>
        have hs := bet_ints h3
        obtain ⟨l, hl⟩ : ∃ l, l = xs.map toI := ⟨_, rfl⟩
        rw [← hl] at hs
        have hlen : l.length < 64 := by rw [hl, List.length_map]; omega
        have so : ∀ ρ, eSortSet (eVar 0) (.v (.tup xs) :: ρ) = .ok (.lst ((sortU l).map D.int)) (.v (.tup xs) :: ρ) := fun ρ => by
          simp [eSortSet, hs, intsOf_map, hlen]
        have ls : listD [.tup xs] = some (.lst (l.map D.int)) := by rw [← hs]; rfl
        have hp : decide (l = sortU l) = decide (l.Pairwise (· < ·)) := by
          rw [Bool.eq_iff_iff, decide_eq_true_iff, decide_eq_true_iff]
          exact sortU_fix l
        simp [F__law_are_days, m__law_are_days, isT, e, al, h3, n0, h4, backE, wipeE, keepV, daysB, so, ls, eqO_iL, hp, ← hl]
  | exn _ _ => cases hd
  | _ => simp [F__law_are_days, m__law_are_days, isT, daysB]
end NV

set_option Elab.async false
set_option linter.all false
set_option maxRecDepth 100000
set_option maxHeartbeats 4000000
namespace NV
open PySem PySem.Spec PyProof.Rows L2
def okRule : D → Bool
  | .tup xs => xs.all okTup && decide (xs.length < 60)
  | d => noExn d
theorem okRule_noExn {d : D} (h : okRule d = true) : noExn d = true := by
  cases d <;> first | rfl | exact h
theorem days_call (d : D) (hd : okTup d = true) (ρ : Env) : callG [false] false F_are_days [.val d] ρ = .ok (.bl (daysB d)) ρ := call_val rfl rfl (are_days_eq d hd) (.inl rfl)
theorem ldays_call (d : D) (hd : okTup d = true) (ρ : Env) : callG [false] false F__law_are_days [.val d] ρ = .ok (.bl (daysB d)) ρ := call_val rfl rfl (law_days_eq d hd) (.inl rfl)
theorem words_call (d : D) (hd : okTup d = true) (ρ : Env) : callG [false] false F_are_words [.val d] ρ = .ok (.bl (wordsB d)) ρ := call_val rfl rfl (are_words_eq d hd) (.inl rfl)
def ltB : D → D → Bool
  | .int i, .int j => decide (i < j)
  | _, _ => false
def hoursB (a b : D) : Bool := betB 0 23 a && (betB 1 24 b && ltB a b)
theorem hours_call (a b : D) (ha : noExn a = true) (hb : noExn b = true) (ρ : Env) : callG [false, false] false F_are_hours [.val a, .val b] ρ = .ok (.bl (hoursB a b)) ρ := by
  refine call_val rfl rfl ?_ (.inl rfl)
  have c1 := between_call a 0 23 ha
  have c2 := between_call b 1 24 hb
  cases h1 : betB 0 23 a with
  | false => simp [F_are_hours, m_are_hours, c1, h1, hoursB]
  | true =>
    cases h2 : betB 1 24 b with
    | false => simp [F_are_hours, m_are_hours, c1, c2, h1, h2, hoursB]
    | true =>
      cases a with
      | int i =>
        cases b with
        | int j => simp [F_are_hours, m_are_hours, c1, c2, h1, h2, hoursB, ltB]
        | _ => cases h2
      | _ => cases h1
def isTup : D → Bool
  | .tup _ => true
  | _ => false
def ruleB : D → Bool
  | .tup (.str h :: ps) =>
    bif decide (h = "song" ∨ h = "singer" ∨ h = "fresh") then (match ps with
      | [a] => betB 0 99999 a
      | _ => false)
    else bif decide (h = "behind") then (match ps with
      | [a, b] => kindB a && kindB b
      | _ => false)
    else bif decide (h = "never") then (match ps with
      | [a, b, c, e] => kindB a && (daysB b && hoursB c e)
      | _ => false)
    else bif decide (h = "most") then (match ps with
      | [a, b, c] => kindB a && (betB 1 99 b && betB 0 99999 c)
      | _ => false)
    else bif decide (h = "wheel") then (match ps with
      | [a] => wordsB a
      | _ => false)
    else false
  | _ => false
theorem ix5 (x a b c e : D) : ixD (.tup [x, a, b, c, e]) (.int 0) = some x ∧ ixD (.tup [x, a, b, c, e]) (.int 1) = some a ∧ ixD (.tup [x, a, b, c, e]) (.int 2) = some b ∧ ixD (.tup [x, a, b, c, e]) (.int 3) = some c ∧ ixD (.tup [x, a, b, c, e]) (.int 4) = some e := ⟨rfl, rfl, rfl, rfl, rfl⟩
theorem ix3 (x a b : D) : ixD (.tup [x, a, b]) (.int 0) = some x ∧ ixD (.tup [x, a, b]) (.int 1) = some a ∧ ixD (.tup [x, a, b]) (.int 2) = some b := ⟨rfl, rfl, rfl⟩
theorem ix2 (x a : D) : ixD (.tup [x, a]) (.int 0) = some x ∧ ixD (.tup [x, a]) (.int 1) = some a := ⟨rfl, rfl⟩
theorem ix1 (x : D) : ixD (.tup [x]) (.int 0) = some x := rfl
theorem ix0 (x : D) (ps : List D) : ixD (.tup (x :: ps)) (.int 0) = some x := ix_tup (x :: ps) 0 (by simp)
theorem ln_tup (xs : List D) : lenD [.tup xs] = some (.int (xs.length : Int)) := rfl
theorem len_cases (ps : List D) : ps = [] ∨ (∃ a, ps = [a]) ∨ (∃ a b, ps = [a, b]) ∨ (∃ a b c, ps = [a, b, c]) ∨ (∃ a b c e, ps = [a, b, c, e]) ∨ (∃ a b c e f r, ps = a :: b :: c :: e :: f :: r) := by
  rcases ps with _ | ⟨a, _ | ⟨b, _ | ⟨c, _ | ⟨e, _ | ⟨f, r⟩⟩⟩⟩⟩
  · exact .inl rfl
  · exact .inr (.inl ⟨a, rfl⟩)
  · exact .inr (.inr (.inl ⟨a, b, rfl⟩))
  · exact .inr (.inr (.inr (.inl ⟨a, b, c, rfl⟩)))
  · exact .inr (.inr (.inr (.inr (.inl ⟨a, b, c, e, rfl⟩))))
  · exact .inr (.inr (.inr (.inr (.inr ⟨a, b, c, e, f, r, rfl⟩))))
/-- the heads -/
theorem head_cases (h : Str) : (h = "song" ∨ h = "singer" ∨ h = "fresh") ∨ h = "behind" ∨ h = "never" ∨ h = "most" ∨ h = "wheel" ∨ (¬ (h = "song" ∨ h = "singer" ∨ h = "fresh") ∧ ¬ h = "behind" ∧ ¬ h = "never" ∧ ¬ h = "most" ∧ ¬ h = "wheel") := by
  by_cases h1 : (h = "song" ∨ h = "singer" ∨ h = "fresh")
  · exact .inl h1
  by_cases h2 : h = "behind"
  · exact .inr (.inl h2)
  by_cases h3 : h = "never"
  · exact .inr (.inr (.inl h3))
  by_cases h4 : h = "most"
  · exact .inr (.inr (.inr (.inl h4)))
  by_cases h5 : h = "wheel"
  · exact .inr (.inr (.inr (.inr (.inl h5))))
  exact .inr (.inr (.inr (.inr (.inr ⟨h1, h2, h3, h4, h5⟩))))
theorem in3 (h : Str) : inD (.str h) (.tup [.str "song", .str "singer", .str "fresh"]) = some (.bl (decide (h = "song" ∨ h = "singer" ∨ h = "fresh"))) := by
  rw [show ([.str "song", .str "singer", .str "fresh"] : List D) = (["song", "singer", "fresh"] : List Str).map D.str from rfl, in_strs]
  simp
/-- what the text h answers -/
structure Hd (h : Str) (s b n m w : Bool) : Prop where
  s : decide (h = "song" ∨ h = "singer" ∨ h = "fresh") = s
  b : decide (h = "behind") = b
  n : decide (h = "never") = n
  m : decide (h = "most") = m
  w : decide (h = "wheel") = w
theorem heads (h : Str) : Hd h true false false false false ∨ Hd h false true false false false ∨ Hd h false false true false false ∨ Hd h false false false true false ∨ Hd h false false false false true ∨ Hd h false false false false false := by
  rcases head_cases h with (rfl | rfl | rfl) | rfl | rfl | rfl | rfl | ⟨h1, h2, h3, h4, h5⟩
  · exact .inl ⟨by decide, by decide, by decide, by decide, by decide⟩
  · exact .inl ⟨by decide, by decide, by decide, by decide, by decide⟩
  · exact .inl ⟨by decide, by decide, by decide, by decide, by decide⟩
  · exact .inr (.inl ⟨by decide, by decide, by decide, by decide, by decide⟩)
  · exact .inr (.inr (.inl ⟨by decide, by decide, by decide, by decide, by decide⟩))
  · exact .inr (.inr (.inr (.inl ⟨by decide, by decide, by decide, by decide, by decide⟩)))
  · exact .inr (.inr (.inr (.inr (.inl ⟨by decide, by decide, by decide, by decide, by decide⟩))))
  · exact .inr (.inr (.inr (.inr (.inr ⟨decide_eq_false h1, decide_eq_false h2, decide_eq_false h3, decide_eq_false h4, decide_eq_false h5⟩))))
end NV

set_option Elab.async false
set_option linter.all false
set_option maxRecDepth 100000
set_option maxHeartbeats 4000000
namespace NV
open PySem PySem.Spec PyProof.Rows L2
theorem all_len {ps : List D} {k : Nat} (h : ps.length = k) : ps.length = k := h
theorem l1 {xs : List D} (h : xs.length = 1) : ∃ a, xs = [a] := by
  match xs, h with
  | [a], _ => exact ⟨a, rfl⟩
theorem l2 {xs : List D} (h : xs.length = 2) : ∃ a b, xs = [a, b] := by
  match xs, h with
  | [a, b], _ => exact ⟨a, b, rfl⟩
theorem l3 {xs : List D} (h : xs.length = 3) : ∃ a b c, xs = [a, b, c] := by
  match xs, h with
  | [a, b, c], _ => exact ⟨a, b, c, rfl⟩
theorem l4 {xs : List D} (h : xs.length = 4) : ∃ a b c d, xs = [a, b, c, d] := by
  match xs, h with
  | [a, b, c, d], _ => exact ⟨a, b, c, d, rfl⟩
theorem is_rule_eq (d : D) (hd : okRule d = true) : F_is_rule [d] = .ok (.bl (ruleB d)) [] := by
  cases d with
  | tup xs =>
    have hd' := hd
    unfold okRule at hd'
    rw [Bool.and_eq_true] at hd'
    have few := of_decide_eq_true hd'.2
    have ok := List.all_eq_true.mp hd'.1
    have ln := ln_tup xs
    cases xs with
    | nil => simp [F_is_rule, m_is_rule, sPar, isT, ln, ruleB]
    | cons x ps =>
      have i0 := ix0 x ps
      by_cases h0 : ps.length = 0
      · have e0 := List.length_eq_zero_iff.mp h0
        subst e0
        have rb : ruleB (.tup [x]) = false := by
          cases x with
          | str h => rcases heads h with q | q | q | q | q | q <;> simp only [ruleB, q.s, q.b, q.n, q.m, q.w, cond_true, cond_false]
          | _ => rfl
        rw [rb]
        simp [F_is_rule, m_is_rule, sPar, isT, ln]
      obtain ⟨n, hn⟩ : ∃ n : Int, n = ((x :: ps).length : Int) := ⟨_, rfl⟩
      have hn' : n = (ps.length : Int) + 1 := by rw [hn]; simp
      have n2 : ¬ n < 2 := by omega
      rw [← hn] at ln
      cases x with
      | str h =>
        have e1 := in3 h
        have e2 := eqO_ss h "behind"
        have e3 := eqO_ss h "never"
        have e4 := eqO_ss h "most"
        have e5 := eqO_ss h "wheel"
        rcases heads h with q | q | q | q | q | q
        all_goals rw [q.s] at e1
        all_goals rw [q.b] at e2
        all_goals rw [q.n] at e3
        all_goals rw [q.m] at e4
        all_goals rw [q.w] at e5
        · by_cases hk : ps.length = 1
          · obtain ⟨a, rfl⟩ := l1 hk
            have hnn : n = 2 := by rw [hn']; simp
            subst hnn
            have oa := ok a (by simp)
            have i1 : ixD (.tup [.str h, a]) (.int 1) = some a := rfl
            have c1 := between_call a 0 99999 (okTup_noExn oa)
            have rb : ruleB (.tup (.str h :: [a])) = betB 0 99999 a := by simp only [ruleB, q.s, q.b, q.n, q.m, q.w, cond_true, cond_false]
            rw [rb]
            simp [F_is_rule, m_is_rule, sPar, isT, ln, i0, n2, e1, e2, e3, e4, e5, i1, c1, G_MOST_SPAN]
          · have hk2 : ¬ n = 2 := by omega
            have rb : ruleB (.tup (.str h :: ps)) = false := by
              simp only [ruleB, q.s, q.b, q.n, q.m, q.w, cond_true, cond_false]
              rcases len_cases ps with rfl | ⟨a, rfl⟩ | ⟨a, b, rfl⟩ | ⟨a, b, c, rfl⟩ | ⟨a, b, c, e, rfl⟩ | ⟨a, b, c, e, f, r, rfl⟩ <;> first | rfl | exact absurd rfl hk
            rw [rb]
            simp [F_is_rule, m_is_rule, sPar, isT, ln, i0, n2, e1, e2, e3, e4, e5, hk2]
        · by_cases hk : ps.length = 2
          · obtain ⟨a, b, rfl⟩ := l2 hk
            have hnn : n = 3 := by rw [hn']; simp
            subst hnn
            have oa := ok a (by simp)
            have ob := ok b (by simp)
            have i1 : ixD (.tup [.str h, a, b]) (.int 1) = some a := rfl
            have i2 : ixD (.tup [.str h, a, b]) (.int 2) = some b := rfl
            have c1 := kind_call a (okTup_noExn oa)
            have c2 := kind_call b (okTup_noExn ob)
            have rb : ruleB (.tup (.str h :: [a, b])) = (kindB a && kindB b) := by simp only [ruleB, q.s, q.b, q.n, q.m, q.w, cond_true, cond_false]
            rw [rb]
            cases h1 : kindB a <;> simp [F_is_rule, m_is_rule, sPar, isT, ln, i0, n2, e1, e2, e3, e4, e5, i1, i2, c1, c2, h1]
          · have hk2 : ¬ n = 3 := by omega
            have rb : ruleB (.tup (.str h :: ps)) = false := by
              simp only [ruleB, q.s, q.b, q.n, q.m, q.w, cond_true, cond_false]
              rcases len_cases ps with rfl | ⟨a, rfl⟩ | ⟨a, b, rfl⟩ | ⟨a, b, c, rfl⟩ | ⟨a, b, c, e, rfl⟩ | ⟨a, b, c, e, f, r, rfl⟩ <;> first | rfl | exact absurd rfl hk
            rw [rb]
            simp [F_is_rule, m_is_rule, sPar, isT, ln, i0, n2, e1, e2, e3, e4, e5, hk2]
        · by_cases hk : ps.length = 4
          · obtain ⟨a, b, c, e, rfl⟩ := l4 hk
            have hnn : n = 5 := by rw [hn']; simp
            subst hnn
            have oa := ok a (by simp)
            have ob := ok b (by simp)
            have oc := ok c (by simp)
            have oe := ok e (by simp)
            have i1 : ixD (.tup [.str h, a, b, c, e]) (.int 1) = some a := rfl
            have i2 : ixD (.tup [.str h, a, b, c, e]) (.int 2) = some b := rfl
            have i3 : ixD (.tup [.str h, a, b, c, e]) (.int 3) = some c := rfl
            have i4 : ixD (.tup [.str h, a, b, c, e]) (.int 4) = some e := rfl
            have c1 := kind_call a (okTup_noExn oa)
            have c2 := days_call b ob
            have c3 := hours_call c e (okTup_noExn oc) (okTup_noExn oe)
            have rb : ruleB (.tup (.str h :: [a, b, c, e])) = (kindB a && (daysB b && hoursB c e)) := by simp only [ruleB, q.s, q.b, q.n, q.m, q.w, cond_true, cond_false]
            rw [rb]
            cases h1 : kindB a <;> cases h2 : daysB b <;> simp [F_is_rule, m_is_rule, sPar, isT, ln, i0, n2, e1, e2, e3, e4, e5, i1, i2, i3, i4, c1, c2, c3, h1, h2]
          · have hk2 : ¬ n = 5 := by omega
            have rb : ruleB (.tup (.str h :: ps)) = false := by
              simp only [ruleB, q.s, q.b, q.n, q.m, q.w, cond_true, cond_false]
              rcases len_cases ps with rfl | ⟨a, rfl⟩ | ⟨a, b, rfl⟩ | ⟨a, b, c, rfl⟩ | ⟨a, b, c, e, rfl⟩ | ⟨a, b, c, e, f, r, rfl⟩ <;> first | rfl | exact absurd rfl hk
            rw [rb]
            simp [F_is_rule, m_is_rule, sPar, isT, ln, i0, n2, e1, e2, e3, e4, e5, hk2]
        · by_cases hk : ps.length = 3
          · obtain ⟨a, b, c, rfl⟩ := l3 hk
            have hnn : n = 4 := by rw [hn']; simp
            subst hnn
            have oa := ok a (by simp)
            have ob := ok b (by simp)
            have oc := ok c (by simp)
            have i1 : ixD (.tup [.str h, a, b, c]) (.int 1) = some a := rfl
            have i2 : ixD (.tup [.str h, a, b, c]) (.int 2) = some b := rfl
            have i3 : ixD (.tup [.str h, a, b, c]) (.int 3) = some c := rfl
            have c1 := kind_call a (okTup_noExn oa)
            have c2 := between_call b 1 99 (okTup_noExn ob)
            have c3 := between_call c 0 99999 (okTup_noExn oc)
            have rb : ruleB (.tup (.str h :: [a, b, c])) = (kindB a && (betB 1 99 b && betB 0 99999 c)) := by simp only [ruleB, q.s, q.b, q.n, q.m, q.w, cond_true, cond_false]
            rw [rb]
            cases h1 : kindB a <;> cases h2 : betB 1 99 b <;> simp [F_is_rule, m_is_rule, sPar, isT, ln, i0, n2, e1, e2, e3, e4, e5, i1, i2, i3, c1, c2, c3, h1, h2, G_MOST_MANY, G_MOST_SPAN]
          · have hk2 : ¬ n = 4 := by omega
            have rb : ruleB (.tup (.str h :: ps)) = false := by
              simp only [ruleB, q.s, q.b, q.n, q.m, q.w, cond_true, cond_false]
              rcases len_cases ps with rfl | ⟨a, rfl⟩ | ⟨a, b, rfl⟩ | ⟨a, b, c, rfl⟩ | ⟨a, b, c, e, rfl⟩ | ⟨a, b, c, e, f, r, rfl⟩ <;> first | rfl | exact absurd rfl hk
            rw [rb]
            simp [F_is_rule, m_is_rule, sPar, isT, ln, i0, n2, e1, e2, e3, e4, e5, hk2]
        · by_cases hk : ps.length = 1
          · obtain ⟨a, rfl⟩ := l1 hk
            have hnn : n = 2 := by rw [hn']; simp
            subst hnn
            have oa := ok a (by simp)
            have i1 : ixD (.tup [.str h, a]) (.int 1) = some a := rfl
            have c1 := words_call a oa
            have rb : ruleB (.tup (.str h :: [a])) = wordsB a := by simp only [ruleB, q.s, q.b, q.n, q.m, q.w, cond_true, cond_false]
            rw [rb]
            simp [F_is_rule, m_is_rule, sPar, isT, ln, i0, n2, e1, e2, e3, e4, e5, i1, c1]
          · have hk2 : ¬ n = 2 := by omega
            have rb : ruleB (.tup (.str h :: ps)) = false := by
              simp only [ruleB, q.s, q.b, q.n, q.m, q.w, cond_true, cond_false]
              rcases len_cases ps with rfl | ⟨a, rfl⟩ | ⟨a, b, rfl⟩ | ⟨a, b, c, rfl⟩ | ⟨a, b, c, e, rfl⟩ | ⟨a, b, c, e, f, r, rfl⟩ <;> first | rfl | exact absurd rfl hk
            rw [rb]
            simp [F_is_rule, m_is_rule, sPar, isT, ln, i0, n2, e1, e2, e3, e4, e5, hk2]
        · have rb : ruleB (.tup (.str h :: ps)) = false := by simp only [ruleB, q.s, q.b, q.n, q.m, q.w, cond_true, cond_false]
          rw [rb]
          simp [F_is_rule, m_is_rule, sPar, isT, ln, i0, n2, e1, e2, e3, e4, e5]
      | exn _ _ => exact absurd (ok _ List.mem_cons_self) (by simp [okTup, noExn])
      | _ => simp [F_is_rule, m_is_rule, sPar, isT, ln, i0, n2, ruleB]
  | exn _ _ => cases hd
  | _ => simp [F_is_rule, m_is_rule, sPar, isT, ruleB]
end NV

set_option Elab.async false
set_option linter.all false
set_option maxRecDepth 100000
set_option maxHeartbeats 4000000
namespace NV
open PySem PySem.Spec PyProof.Rows L2
theorem cut1 (x : D) (ps : List D) : slD (.tup (x :: ps)) (some 1) none = some (.tup ps) := by
  show some (D.tup (cutL (x :: ps) (some ((1 : Nat) : Int)) none)) = _
  rw [cut_from]
  rfl
theorem law_rule_eq (d : D) (hd : okRule d = true) : F__law_is_rule [d] = .ok (.bl (ruleB d)) [] := by
  cases d with
  | tup xs =>
    have hd' := hd
    unfold okRule at hd'
    rw [Bool.and_eq_true] at hd'
    have few := of_decide_eq_true hd'.2
    have ok := List.all_eq_true.mp hd'.1
    cases xs with
    | nil => simp [F__law_is_rule, m__law_is_rule, isT, show eqO (.tup []) (.tup []) = some (.bl true) from rfl, ruleB]
    | cons x ps =>
      have i0 := ix0 x ps
      have em : eqO (.tup (x :: ps)) (.tup []) = some (.bl false) := rfl
      have c1' := cut1 x ps
      have ln := ln_tup ps
      obtain ⟨n, hn⟩ : ∃ n : Int, n = (ps.length : Int) := ⟨_, rfl⟩
      rw [← hn] at ln
      cases x with
      | str h =>
        have e1 := in3 h
        have e2 := eqO_ss h "behind"
        have e3 := eqO_ss h "never"
        have e4 := eqO_ss h "most"
        have e5 := neO_ss h "wheel"
        rcases heads h with q | q | q | q | q | q
        all_goals rw [q.s] at e1
        all_goals rw [q.b] at e2
        all_goals rw [q.n] at e3
        all_goals rw [q.m] at e4
        all_goals rw [q.w] at e5
        · by_cases hk : ps.length = 1
          · obtain ⟨a, rfl⟩ := l1 hk
            have hnn : n = 1 := by rw [hn]; simp
            subst hnn
            have oa := ok a (by simp)
            have j0 : ixD (.tup [a]) (.int 0) = some a := rfl
            have c1 := within_call a 0 99999 (okTup_noExn oa)
            have rb : ruleB (.tup (.str h :: [a])) = betB 0 99999 a := by simp only [ruleB, q.s, q.b, q.n, q.m, q.w, cond_true, cond_false]
            rw [rb]
            simp [F__law_is_rule, m__law_is_rule, isT, eSl, oNo, oSome, asI, em, c1', ln, i0, e1, e2, e3, e4, e5, j0, c1]
          · have hk2 : ¬ n = 1 := by omega
            have rb : ruleB (.tup (.str h :: ps)) = false := by
              simp only [ruleB, q.s, q.b, q.n, q.m, q.w, cond_true, cond_false]
              rcases len_cases ps with rfl | ⟨a, rfl⟩ | ⟨a, b, rfl⟩ | ⟨a, b, c, rfl⟩ | ⟨a, b, c, e, rfl⟩ | ⟨a, b, c, e, f, r, rfl⟩ <;> first | rfl | exact absurd rfl hk
            rw [rb]
            simp [F__law_is_rule, m__law_is_rule, isT, eSl, oNo, oSome, asI, em, c1', ln, i0, e1, e2, e3, e4, e5, hk2]
        · by_cases hk : ps.length = 2
          · obtain ⟨a, b, rfl⟩ := l2 hk
            have hnn : n = 2 := by rw [hn]; simp
            subst hnn
            have oa := ok a (by simp)
            have ob := ok b (by simp)
            have j0 : ixD (.tup [a, b]) (.int 0) = some a := rfl
            have j1 : ixD (.tup [a, b]) (.int 1) = some b := rfl
            have c1 := lkind_call a (okTup_noExn oa)
            have c2 := lkind_call b (okTup_noExn ob)
            have rb : ruleB (.tup (.str h :: [a, b])) = (kindB a && kindB b) := by simp only [ruleB, q.s, q.b, q.n, q.m, q.w, cond_true, cond_false]
            rw [rb]
            cases h1 : kindB a <;> simp [F__law_is_rule, m__law_is_rule, isT, eSl, oNo, oSome, asI, em, c1', ln, i0, e1, e2, e3, e4, e5, j0, j1, c1, c2, h1]
          · have hk2 : ¬ n = 2 := by omega
            have rb : ruleB (.tup (.str h :: ps)) = false := by
              simp only [ruleB, q.s, q.b, q.n, q.m, q.w, cond_true, cond_false]
              rcases len_cases ps with rfl | ⟨a, rfl⟩ | ⟨a, b, rfl⟩ | ⟨a, b, c, rfl⟩ | ⟨a, b, c, e, rfl⟩ | ⟨a, b, c, e, f, r, rfl⟩ <;> first | rfl | exact absurd rfl hk
            rw [rb]
            simp [F__law_is_rule, m__law_is_rule, isT, eSl, oNo, oSome, asI, em, c1', ln, i0, e1, e2, e3, e4, e5, hk2]
        · by_cases hk : ps.length = 4
          · obtain ⟨a, b, c, e, rfl⟩ := l4 hk
            have hnn : n = 4 := by rw [hn]; simp
            subst hnn
            have oa := ok a (by simp)
            have ob := ok b (by simp)
            have oc := ok c (by simp)
            have oe := ok e (by simp)
            have j0 : ixD (.tup [a, b, c, e]) (.int 0) = some a := rfl
            have j1 : ixD (.tup [a, b, c, e]) (.int 1) = some b := rfl
            have j2 : ixD (.tup [a, b, c, e]) (.int 2) = some c := rfl
            have j3 : ixD (.tup [a, b, c, e]) (.int 3) = some e := rfl
            have c1 := lkind_call a (okTup_noExn oa)
            have c2 := ldays_call b ob
            have c3 := within_call c 0 23 (okTup_noExn oc)
            have c4 := within_call e 1 24 (okTup_noExn oe)
            have rb : ruleB (.tup (.str h :: [a, b, c, e])) = (kindB a && (daysB b && hoursB c e)) := by simp only [ruleB, q.s, q.b, q.n, q.m, q.w, cond_true, cond_false]
            rw [rb]
            cases h1 : kindB a with
            | false => simp [F__law_is_rule, m__law_is_rule, isT, eSl, oNo, oSome, asI, em, c1', ln, i0, e1, e2, e3, e4, e5, j0, j1, j2, j3, c1, h1]
            | true =>
              cases h2 : daysB b with
              | false => simp [F__law_is_rule, m__law_is_rule, isT, eSl, oNo, oSome, asI, em, c1', ln, i0, e1, e2, e3, e4, e5, j0, j1, j2, j3, c1, c2, h1, h2]
              | true =>
                unfold hoursB
                cases h3 : betB 0 23 c with
                | false => simp [F__law_is_rule, m__law_is_rule, isT, eSl, oNo, oSome, asI, em, c1', ln, i0, e1, e2, e3, e4, e5, j0, j1, j2, j3, c1, c2, c3, h1, h2, h3]
                | true =>
                  cases h4 : betB 1 24 e with
                  | false => simp [F__law_is_rule, m__law_is_rule, isT, eSl, oNo, oSome, asI, em, c1', ln, i0, e1, e2, e3, e4, e5, j0, j1, j2, j3, c1, c2, c3, c4, h1, h2, h3, h4]
                  | true =>
                    cases c with
                    | int i =>
                      cases e with
                      | int j => simp [F__law_is_rule, m__law_is_rule, isT, eSl, oNo, oSome, asI, em, c1', ln, i0, e1, e2, e3, e4, e5, j0, j1, j2, j3, c1, c2, c3, c4, h1, h2, h3, h4, ltB]
                      | _ => cases h4
                    | _ => cases h3
          · have hk2 : ¬ n = 4 := by omega
            have rb : ruleB (.tup (.str h :: ps)) = false := by
              simp only [ruleB, q.s, q.b, q.n, q.m, q.w, cond_true, cond_false]
              rcases len_cases ps with rfl | ⟨a, rfl⟩ | ⟨a, b, rfl⟩ | ⟨a, b, c, rfl⟩ | ⟨a, b, c, e, rfl⟩ | ⟨a, b, c, e, f, r, rfl⟩ <;> first | rfl | exact absurd rfl hk
            rw [rb]
            simp [F__law_is_rule, m__law_is_rule, isT, eSl, oNo, oSome, asI, em, c1', ln, i0, e1, e2, e3, e4, e5, hk2]
        · by_cases hk : ps.length = 3
          · obtain ⟨a, b, c, rfl⟩ := l3 hk
            have hnn : n = 3 := by rw [hn]; simp
            subst hnn
            have oa := ok a (by simp)
            have ob := ok b (by simp)
            have oc := ok c (by simp)
            have j0 : ixD (.tup [a, b, c]) (.int 0) = some a := rfl
            have j1 : ixD (.tup [a, b, c]) (.int 1) = some b := rfl
            have j2 : ixD (.tup [a, b, c]) (.int 2) = some c := rfl
            have c1 := lkind_call a (okTup_noExn oa)
            have c2 := within_call b 1 99 (okTup_noExn ob)
            have c3 := within_call c 0 99999 (okTup_noExn oc)
            have rb : ruleB (.tup (.str h :: [a, b, c])) = (kindB a && (betB 1 99 b && betB 0 99999 c)) := by simp only [ruleB, q.s, q.b, q.n, q.m, q.w, cond_true, cond_false]
            rw [rb]
            cases h1 : kindB a <;> cases h2 : betB 1 99 b <;> simp [F__law_is_rule, m__law_is_rule, isT, eSl, oNo, oSome, asI, em, c1', ln, i0, e1, e2, e3, e4, e5, j0, j1, j2, c1, c2, c3, h1, h2]
          · have hk2 : ¬ n = 3 := by omega
            have rb : ruleB (.tup (.str h :: ps)) = false := by
              simp only [ruleB, q.s, q.b, q.n, q.m, q.w, cond_true, cond_false]
              rcases len_cases ps with rfl | ⟨a, rfl⟩ | ⟨a, b, rfl⟩ | ⟨a, b, c, rfl⟩ | ⟨a, b, c, e, rfl⟩ | ⟨a, b, c, e, f, r, rfl⟩ <;> first | rfl | exact absurd rfl hk
            rw [rb]
            simp [F__law_is_rule, m__law_is_rule, isT, eSl, oNo, oSome, asI, em, c1', ln, i0, e1, e2, e3, e4, e5, hk2]
        · by_cases hk : ps.length = 1
          · obtain ⟨a, rfl⟩ := l1 hk
            have hnn : n = 1 := by rw [hn]; simp
            subst hnn
            have oa := ok a (by simp)
            have j0 : ixD (.tup [a]) (.int 0) = some a := rfl
            have rb : ruleB (.tup (.str h :: [a])) = wordsB a := by simp only [ruleB, q.s, q.b, q.n, q.m, q.w, cond_true, cond_false]
            rw [rb]
            cases a with
            | tup ws =>
              have ow := oa
              unfold okTup at ow
              rw [Bool.and_eq_true] at ow
              obtain ⟨y, e⟩ := comp_D (mt := tYesM) (me := eCall [false] false F__law_is_name (aCons (rVar 2) aNil)) (i := 2) (fun s => [.v (.tup [.str h, .tup ws]), .v (.tup [.tup ws]), s]) (fun _ _ => rfl) ws (fun d => .bl (nameB d)) (fun d _ => by simp) (fun d hd => by simp [lname_call d (List.all_eq_true.mp ow.1 d hd)]) .no
              have al : allD2 [.lst (ws.map fun d => D.bl (nameB d))] = some (.bl (ws.all nameB)) := all_map ws nameB
              have lw := ln_tup ws
              obtain ⟨k, hk3⟩ : ∃ k : Int, k = (ws.length : Int) := ⟨_, rfl⟩
              have wb : wordsB (.tup ws) = (decide (1 ≤ k) && (decide (k ≤ 8) && ws.all nameB)) := by rw [hk3]; rfl
              rw [← hk3] at lw
              rw [wb]
              by_cases h1 : 1 ≤ k <;> by_cases h2 : k ≤ 8 <;> simp [F__law_is_rule, m__law_is_rule, isT, eSl, oNo, oSome, asI, em, c1', ln, i0, e1, e2, e3, e4, e5, j0, lw, h1, h2, e, al, backE, wipeE, keepV]
            | exn _ _ => cases oa
            | _ => simp [F__law_is_rule, m__law_is_rule, isT, eSl, oNo, oSome, asI, em, c1', ln, i0, e1, e2, e3, e4, e5, j0, wordsB]
          · have hk2 : ¬ n = 1 := by omega
            have rb : ruleB (.tup (.str h :: ps)) = false := by
              simp only [ruleB, q.s, q.b, q.n, q.m, q.w, cond_true, cond_false]
              rcases len_cases ps with rfl | ⟨a, rfl⟩ | ⟨a, b, rfl⟩ | ⟨a, b, c, rfl⟩ | ⟨a, b, c, e, rfl⟩ | ⟨a, b, c, e, f, r, rfl⟩ <;> first | rfl | exact absurd rfl hk
            rw [rb]
            simp [F__law_is_rule, m__law_is_rule, isT, eSl, oNo, oSome, asI, em, c1', ln, i0, e1, e2, e3, e4, e5, hk2]
        · have rb : ruleB (.tup (.str h :: ps)) = false := by simp only [ruleB, q.s, q.b, q.n, q.m, q.w, cond_true, cond_false]
          rw [rb]
          simp [F__law_is_rule, m__law_is_rule, isT, eSl, oNo, oSome, asI, em, c1', ln, i0, e1, e2, e3, e4, e5]
      | exn _ _ => exact absurd (ok _ List.mem_cons_self) (by simp [okTup, noExn])
      | _ => simp [F__law_is_rule, m__law_is_rule, isT, em, i0, ruleB]
  | exn _ _ => cases hd
  | _ => simp [F__law_is_rule, m__law_is_rule, isT, ruleB]
end NV

set_option Elab.async false
set_option linter.all false
set_option maxRecDepth 100000
set_option maxHeartbeats 4000000
namespace NV
open PySem PySem.Spec PyProof.Rows L2
def hdD : D → D
  | .tup (x :: _) => x
  | _ => .non
theorem rule_hd {d : D} (h : ruleB d = true) : ixD d (.int 0) = some (hdD d) ∧ ∃ z : Str, hdD d = .str z := by
  cases d with
  | tup xs =>
    cases xs with
    | nil => cases h
    | cons x ps =>
      refine ⟨ix0 x ps, ?_⟩
      cases x with
      | str z => exact ⟨z, rfl⟩
      | _ => cases h
  | _ => cases h
theorem heads_strs : ∀ {xs : List D}, xs.all ruleB = true → ∃ ss : List Str, xs.map hdD = ss.map D.str
  | [], _ => ⟨[], rfl⟩
  | d :: xs, h => by
    rw [List.all_cons, Bool.and_eq_true] at h
    obtain ⟨ss, e⟩ := heads_strs h.2
    obtain ⟨_, z, hz⟩ := rule_hd h.1
    exact ⟨z :: ss, by rw [List.map_cons, List.map_cons, e, hz]⟩
def cntD (hs : List D) (w : Str) : Int := ((hs.countP fun z => eqD z (.str w) : Nat) : Int)
def rulesB : D → Bool
  | .tup xs => decide ((xs.length : Int) ≤ 12) && (xs.all ruleB && (decide (cntD (xs.map hdD) "fresh" ≤ 1) && decide (cntD (xs.map hdD) "wheel" ≤ 1)))
  | _ => false
def okRules : D → Bool
  | .tup xs => xs.all okRule && decide (xs.length < 60)
  | d => noExn d
theorem rule_call (d : D) (hd : okRule d = true) (ρ : Env) : callG [false] false F_is_rule [.val d] ρ = .ok (.bl (ruleB d)) ρ := call_val rfl rfl (is_rule_eq d hd) (.inl rfl)
theorem lrule_call (d : D) (hd : okRule d = true) (ρ : Env) : callG [false] false F__law_is_rule [.val d] ρ = .ok (.bl (ruleB d)) ρ := call_val rfl rfl (law_rule_eq d hd) (.inl rfl)
theorem count_strs (ss : List Str) (w : Str) : countD (.lst (ss.map D.str)) (.str w) = some (.int (cntD (ss.map D.str) w)) := by
  show (if okL 60 (ss.map D.str) = true ∧ okD 60 (.str w) = true then _ else _) = _
  rw [if_pos ⟨okL_strs 60 ss, rfl⟩]
  rfl
theorem is_rules_eq (d : D) (hd : okRules d = true) : F_is_rules [d] = .ok (.bl (rulesB d)) [] := by
  cases d with
  | tup xs =>
    have hd' := hd
    unfold okRules at hd'
    rw [Bool.and_eq_true] at hd'
    have few := of_decide_eq_true hd'.2
    have ok := List.all_eq_true.mp hd'.1
    have ln := ln_tup xs
    obtain ⟨y, e⟩ := comp_D (mt := tYesM) (me := eCall [false] false F_is_rule (aCons (rVar 2) aNil)) (i := 2) (fun s => [.v (.tup xs), .no, s, .no]) (fun _ _ => rfl) xs (fun d => .bl (ruleB d)) (fun d _ => by simp) (fun d hd => by simp [rule_call d (ok d hd)]) .no
    have al : allD2 [.lst (xs.map fun d => D.bl (ruleB d))] = some (.bl (xs.all ruleB)) := all_map xs ruleB
    obtain ⟨n, hn⟩ : ∃ n : Int, n = (xs.length : Int) := ⟨_, rfl⟩
    by_cases h1 : n ≤ 12
    · have h1' : ¬ 12 < n := by omega
      cases h3 : xs.all ruleB with
      | false =>
        have rb : rulesB (.tup xs) = false := by simp only [rulesB, h3, Bool.false_and, Bool.and_false]
        rw [← hn] at ln
        rw [rb]
        simp [F_is_rules, m_is_rules, isT, ln, h1', e, al, h3, backE, wipeE, keepV, G_MOST_RULES]
      | true =>
        obtain ⟨ss, hss⟩ := heads_strs h3
        obtain ⟨y2, e2⟩ := comp_D (mt := tYesM) (me := eOp2 ixD (rVar 2) (rOf (eC (.int 0)))) (i := 2) (fun s => [.v (.tup xs), .no, s, .no]) (fun _ _ => rfl) xs hdD (fun d _ => by simp) (fun d hd => by simp [(rule_hd (List.all_eq_true.mp h3 d hd)).1]) .no
        have rb : rulesB (.tup xs) = (decide (cntD (ss.map D.str) "fresh" ≤ 1) && decide (cntD (ss.map D.str) "wheel" ≤ 1)) := by
          simp only [rulesB, h3, hss, ← hn, h1, decide_true, Bool.true_and]
        rw [hss] at e2
        have cs := count_strs ss
        generalize cntD (ss.map D.str) = g at cs rb
        obtain ⟨hs, hhs⟩ : ∃ hs, hs = ss.map D.str := ⟨_, rfl⟩
        rw [← hhs] at cs e2
        obtain ⟨y3, e3⟩ := comp_D (mt := tYesM) (me := eOp2 le2 (rOf (eCount (rVar 1) (rVar 3))) (rOf (eC (.int 1)))) (i := 3) (fun s => [.v (.tup xs), .v (.lst hs), .no, s]) (fun _ _ => rfl) [.str "fresh", .str "wheel"] (fun d => match d with
          | .str w => .bl (decide (g w ≤ 1))
          | _ => .non) (fun d _ => by simp) (fun d hd => by
            simp only [List.mem_cons, List.not_mem_nil, or_false] at hd
            rcases hd with rfl | rfl <;> simp [eCount, isLst, cs]) .no
        have al2 : allD2 [.lst [D.bl (decide (g "fresh" ≤ 1)), D.bl (decide (g "wheel" ≤ 1))]] = some (.bl (decide (g "fresh" ≤ 1) && (decide (g "wheel" ≤ 1) && true))) := rfl
        have it : itemsD G_ONCE = some [.str "fresh", .str "wheel"] := rfl
        rw [← hn] at ln
        rw [rb]
        simp only [List.map_cons, List.map_nil] at e3
        simp [F_is_rules, m_is_rules, isT, ln, h1', e, al, h3, e2, it, e3, al2, backE, wipeE, keepV, G_MOST_RULES]
    · have h1' : 12 < n := by omega
      have rb : rulesB (.tup xs) = false := by simp only [rulesB, ← hn, decide_eq_false h1, Bool.false_and]
      rw [← hn] at ln
      rw [rb]
      simp [F_is_rules, m_is_rules, isT, ln, h1', G_MOST_RULES]
  | exn _ _ => cases hd
  | _ => simp [F_is_rules, m_is_rules, isT, rulesB]
theorem law_rules_eq (d : D) (hd : okRules d = true) : F__law_is_rules [d] = .ok (.bl (rulesB d)) [] := by
  cases d with
  | tup xs =>
    have hd' := hd
    unfold okRules at hd'
    rw [Bool.and_eq_true] at hd'
    have few := of_decide_eq_true hd'.2
    have ok := List.all_eq_true.mp hd'.1
    have ln := ln_tup xs
    obtain ⟨y, e⟩ := comp_D (mt := tYesM) (me := eCall [false] false F__law_is_rule (aCons (rVar 2) aNil)) (i := 2) (fun s => [.v (.tup xs), .no, s]) (fun _ _ => rfl) xs (fun d => .bl (ruleB d)) (fun d _ => by simp) (fun d hd => by simp [lrule_call d (ok d hd)]) .no
    have al : allD2 [.lst (xs.map fun d => D.bl (ruleB d))] = some (.bl (xs.all ruleB)) := all_map xs ruleB
    obtain ⟨n, hn⟩ : ∃ n : Int, n = (xs.length : Int) := ⟨_, rfl⟩
    by_cases h1 : n ≤ 12
    · have h1' : ¬ 12 < n := by omega
      cases h3 : xs.all ruleB with
      | false =>
        have rb : rulesB (.tup xs) = false := by simp only [rulesB, h3, Bool.false_and, Bool.and_false]
        rw [← hn] at ln
        rw [rb]
        simp [F__law_is_rules, m__law_is_rules, isT, ln, h1', e, al, h3, backE, wipeE, keepV]
      | true =>
        obtain ⟨ss, hss⟩ := heads_strs h3
        obtain ⟨y2, e2⟩ := comp_D (mt := tYesM) (me := eOp2 ixD (rVar 2) (rOf (eC (.int 0)))) (i := 2) (fun s => [.v (.tup xs), .no, s]) (fun _ _ => rfl) xs hdD (fun d _ => by simp) (fun d hd => by simp [(rule_hd (List.all_eq_true.mp h3 d hd)).1]) .no
        have rb : rulesB (.tup xs) = (decide (cntD (ss.map D.str) "fresh" ≤ 1) && decide (cntD (ss.map D.str) "wheel" ≤ 1)) := by
          simp only [rulesB, h3, hss, ← hn, h1, decide_true, Bool.true_and]
        rw [hss] at e2
        have cs := count_strs ss
        generalize cntD (ss.map D.str) = g at cs rb
        obtain ⟨hs, hhs⟩ : ∃ hs, hs = ss.map D.str := ⟨_, rfl⟩
        rw [← hhs] at cs e2
        have c1 := cs "fresh"
        have c2 := cs "wheel"
        generalize g "fresh" = g1 at c1 rb
        generalize g "wheel" = g2 at c2 rb
        rw [← hn] at ln
        rw [rb]
        have k1 : (g1 < 2) ↔ (g1 ≤ 1) := by omega
        have k2 : (g2 < 2) ↔ (g2 ≤ 1) := by omega
        by_cases q1 : g1 ≤ 1 <;> by_cases q2 : g2 ≤ 1 <;> simp [F__law_is_rules, m__law_is_rules, isT, ln, h1', e, al, h3, e2, eCount, isLst, c1, c2, k1, k2, q1, q2, backE, wipeE, keepV]
    · have h1' : 12 < n := by omega
      have rb : rulesB (.tup xs) = false := by simp only [rulesB, ← hn, decide_eq_false h1, Bool.false_and]
      rw [← hn] at ln
      rw [rb]
      simp [F__law_is_rules, m__law_is_rules, isT, ln, h1']
  | exn _ _ => cases hd
  | _ => simp [F__law_is_rules, m__law_is_rules, isT, rulesB]
end NV

set_option Elab.async false
set_option linter.all false
set_option maxRecDepth 100000
set_option maxHeartbeats 4000000
namespace NV
open PySem PySem.Spec PyProof.Rows L2
mutual
def good : D → Bool
  | .exn _ _ => false
  | .tup xs => goodL xs && decide (xs.length < 60)
  | _ => true
def goodL : List D → Bool
  | [] => true
  | d :: ds => good d && goodL ds
end
theorem goodL_all : ∀ xs : List D, goodL xs = xs.all good
  | [] => by rw [goodL]; rfl
  | d :: ds => by rw [goodL, goodL_all ds]; rfl
theorem good_noExn {d : D} (h : good d = true) : noExn d = true := by
  cases d with
  | exn _ _ => rw [good] at h; cases h
  | _ => rfl
theorem good_tup {xs : List D} : good (.tup xs) = (xs.all good && decide (xs.length < 60)) := by rw [good, goodL_all]
theorem all_imp {p q : D → Bool} (h : ∀ d, p d = true → q d = true) {xs : List D} (a : xs.all p = true) : xs.all q = true := by
  rw [List.all_eq_true] at a ⊢
  exact fun d hd => h d (a d hd)
theorem good_okTup {d : D} (h : good d = true) : okTup d = true := by
  cases d with
  | tup xs =>
    rw [good_tup, Bool.and_eq_true] at h
    unfold okTup
    rw [Bool.and_eq_true]
    exact ⟨all_imp (fun _ => good_noExn) h.1, h.2⟩
  | exn _ _ => rw [good] at h; cases h
  | _ => rfl
theorem good_okRule {d : D} (h : good d = true) : okRule d = true := by
  cases d with
  | tup xs =>
    rw [good_tup, Bool.and_eq_true] at h
    unfold okRule
    rw [Bool.and_eq_true]
    exact ⟨all_imp (fun _ => good_okTup) h.1, h.2⟩
  | exn _ _ => rw [good] at h; cases h
  | _ => rfl
theorem good_okRules {d : D} (h : good d = true) : okRules d = true := by
  cases d with
  | tup xs =>
    rw [good_tup, Bool.and_eq_true] at h
    unfold okRules
    rw [Bool.and_eq_true]
    exact ⟨all_imp (fun _ => good_okRule) h.1, h.2⟩
  | exn _ _ => rw [good] at h; cases h
  | _ => rfl
theorem right_ok {d : D} (h : good d = true) : F__law_right [d] = .ok (.bl true) [] := by
  have c1 := fun ρ => call_val (fl := [false]) (F := F_is_rules) (rs := [.val d]) (ρ := ρ) rfl rfl (is_rules_eq d (good_okRules h)) (.inl rfl)
  have c2 := fun ρ => call_val (fl := [false]) (F := F__law_is_rules) (rs := [.val d]) (ρ := ρ) rfl rfl (law_rules_eq d (good_okRules h)) (.inl rfl)
  have r2 : rng1 (.int 2) = some [.int 0, .int 1] := rfl
  simp [F__law_right, m__law_right, r2, forL, c1, c2, isT]
theorem right_call {d : D} (h : good d = true) (ρ : Env) : callG [false] false F__law_right [.val d] ρ = .ok (.bl true) ρ := call_val rfl rfl (right_ok h) (.inl rfl)
/-! ### tools -/
theorem comp_each {S : Type} {mt : TM} {me : EM} {i : Nat} (e : S → Slot → Env) (hset : ∀ s x y, (e s x).set i y = e s y) (P : D → Prop) : ∀ (ds : List D), (∀ s, ∀ d ∈ ds, mt (e s (.v d)) = .ok true (e s (.v d))) → (∀ s, ∀ d ∈ ds, ∃ s' z, me (e s (.v d)) = .ok z (e s' (.v d)) ∧ P z) →
    ∀ (acc : List D) (s : S) (x : Slot), ∃ s' y out, compL (gNm i) mt me [i] ds acc (e s x) = .ok (acc ++ out) (e s' y) ∧ out.length = ds.length ∧ ∀ z ∈ out, P z
  | [], _, _, acc, s, x => ⟨s, x, [], by simp [compL], rfl, fun _ z => by cases z⟩
  | d :: ds, ht, he, acc, s, x => by
    obtain ⟨s1, z, h1, hz⟩ := he s d List.mem_cons_self
    have es : (wipeE (e s x) [i]).set i (.v d) = e s (.v d) := by rw [show wipeE (e s x) [i] = (e s x).set i .no from rfl, hset, hset]
    obtain ⟨s', y, out, e2, hl, hP⟩ := comp_each e hset P ds (fun s d hd => ht s d (List.mem_cons_of_mem _ hd)) (fun s d hd => he s d (List.mem_cons_of_mem _ hd)) (acc ++ [z]) s1 (.v d)
    refine ⟨s', y, z :: out, ?_, by simp [hl], fun w hw => (List.mem_cons.mp hw).elim (fun q => q ▸ hz) (hP w)⟩
    unfold compL
    simp only [gNm_eq, es, ht s d List.mem_cons_self, noexc_ok, bind_ok', if_true, h1]
    rw [e2]
    simp
theorem for_cnt {g : D → Env → Option Env} {body : SM} (I : Nat → Env → Prop) : ∀ (ds : List D) (k : Nat), (∀ j, ∀ d ∈ ds, ∀ ρ, I j ρ → j < k + ds.length → ∃ ρ1 ρ2, g d ρ = some ρ1 ∧ body ρ1 = .nx ρ2 ∧ I (j + 1) ρ2) → ∀ ρ, I k ρ → ∃ ρ', forL g body ds ρ = .nx ρ' ∧ I (k + ds.length) ρ'
  | [], k, _, ρ, h => ⟨ρ, rfl, h⟩
  | d :: ds, k, hb, ρ, h => by
    obtain ⟨ρ1, ρ2, h1, h2, h3⟩ := hb k d List.mem_cons_self ρ h (by simp)
    obtain ⟨ρ', h4, h5⟩ := for_cnt I ds (k + 1) (fun j d hd ρ hi hj => hb j d (List.mem_cons_of_mem _ hd) ρ hi (by simp only [List.length_cons]; omega)) ρ2 h3
    refine ⟨ρ', ?_, by rw [List.length_cons, show k + (ds.length + 1) = k + 1 + ds.length by omega]; exact h5⟩
    unfold forL
    rw [h1]
    simp only [h2]
    exact h4
theorem nodup_len {α : Type} [DecidableEq α] : ∀ (l m : List α), l.Nodup → (∀ x ∈ l, x ∈ m) → l.length ≤ m.length
  | [], _, _, _ => Nat.zero_le _
  | x :: l, m, hn, hs => by
    obtain ⟨h1, h2⟩ := List.nodup_cons.mp hn
    have hx := hs x List.mem_cons_self
    have ih := nodup_len l (m.erase x) h2 fun y hy => (List.mem_erase_of_ne (show y ≠ x from fun e => h1 (e ▸ hy))).mpr (hs y (List.mem_cons_of_mem _ hy))
    rw [List.length_erase_of_mem hx] at ih
    have := List.length_pos_of_mem hx
    rw [List.length_cons]
    omega
theorem ix_pick {L : List D} {r : Int} (h0 : 0 ≤ r) (h1 : r < (L.length : Int)) : ∃ z, ixD (.lst L) (.int r) = some z ∧ z ∈ L := by
  have e := ix_lst L r.toNat (by omega)
  rw [show ((r.toNat : Nat) : Int) = r by omega] at e
  exact ⟨_, e, List.getElem_mem _⟩
theorem cat_ok {a b : List D} (h : a.length + b.length ≤ 16777216) : catD (.lst a) (.lst b) = some (.lst (a ++ b)) := by
  show (if _ ≤ sizeLine then _ else none) = _
  rw [if_pos (by rw [sizeLine_eq]; exact h)]
theorem add_tup {a b : List D} (h : a.length + b.length ≤ 16777216) : addD (.tup a) (.tup b) = some (.tup (a ++ b)) := by
  show (if _ ≤ sizeLine then _ else none) = _
  rw [if_pos (by rw [sizeLine_eq]; exact h)]
theorem add_str {a b : Str} (h : a.length + b.length ≤ 16777216) : addD (.str a) (.str b) = some (.str (a ++ b)) := by
  show (if _ ≤ sizeLine then _ else none) = _
  rw [if_pos (by rw [sizeLine_eq]; exact h)]
/-- small letters, few -/
def lowS (x : Str) : Prop := x.length ≤ 20 ∧ ∀ c ∈ x.cps.toList, 97 ≤ c ∧ c ≤ 122
theorem lowS_by {x : Str} (h : (decide (x.length ≤ 20) && x.cps.toList.all fun c => decide (97 ≤ c) && decide (c ≤ 122)) = true) : lowS x := by
  rw [Bool.and_eq_true] at h
  refine ⟨of_decide_eq_true h.1, fun c hc => ?_⟩
  have := List.all_eq_true.mp h.2 c hc
  rw [Bool.and_eq_true] at this
  exact ⟨of_decide_eq_true this.1, of_decide_eq_true this.2⟩
theorem strOk_by {x : Str} (h : ∀ c ∈ x.cps.toList, c < 1114112) : PySem.PyData.strOk x = true := by
  unfold PySem.PyData.strOk
  rw [Array.all_eq_true_iff_forall_mem]
  intro c hc
  exact decide_eq_true (h c (by simpa using hc))
theorem strGb_by {x : Str} (h1 : x.length ≤ 16777216) (h : ∀ c ∈ x.cps.toList, c < 1114112) : strGb x = true := by
  unfold strGb
  rw [Bool.and_eq_true]
  exact ⟨decide_eq_true (by rw [sizeLine_eq]; exact h1), strOk_by h⟩
theorem upper_ok {x : Str} (h : lowS x) : x.length ≤ 5592405 ∧ strGb (Txt.upper x) = true := by
  have hl := PyProof.Rows.len_upper x
  have := h.1
  refine ⟨by omega, strGb_by (by omega) fun c hc => ?_⟩
  have hc' : c ∈ (placed x fun _ c => Unicode.upperOf c).toList := hc
  unfold placed at hc'
  rw [Array.mem_toList_iff, Array.mem_flatten] at hc'
  obtain ⟨xs, hxs, hcx⟩ := hc'
  obtain ⟨i, hi, e⟩ := Array.mem_mapIdx.mp hxs
  subst e
  have hm : x.cps[i] ∈ x.cps.toList := by simp
  have hlow := h.2 _ hm
  have hcx : c ∈ (Unicode.upperOf x.cps[i]).toArray := hcx
  rw [PyProof.Rows.upperOf_ascii _ (by omega)] at hcx
  have ec : c = PyProof.Rows.up1 x.cps[i] := by simpa using hcx
  have all : ∀ c, c < 128 → PyProof.Rows.up1 c < 1114112 := by decide +kernel
  rw [ec]
  exact all _ (by omega)
end NV

set_option Elab.async false
set_option linter.all false
set_option maxRecDepth 100000
set_option maxHeartbeats 4000000
namespace NV
open PySem PySem.Spec PyProof.Rows L2
theorem foldl_cps (acc : Array Nat) : ∀ ys : List Str, (ys.foldl (fun a p => a ++ (⟨#[]⟩ : Str).cps ++ p.cps) acc).toList = acc.toList ++ (ys.map fun p => p.cps.toList).flatten
  | [] => by simp
  | y :: ys => by
    rw [List.foldl_cons, foldl_cps _ ys]
    simp
theorem join_empty (ys : List Str) : (Txt.join ⟨#[]⟩ ys).cps.toList = (ys.map fun p => p.cps.toList).flatten := by
  show ((ys.drop 1).foldl (fun acc p => acc ++ (⟨#[]⟩ : Str).cps ++ p.cps) (ys.headD Str.empty).cps).toList = _
  cases ys with
  | nil => rfl
  | cons y ys =>
    rw [foldl_cps]
    rfl
/-- one small letter -/
def oneL (d : D) : Prop := ∃ c : Nat, 97 ≤ c ∧ c ≤ 122 ∧ d = .str ⟨#[c]⟩
theorem ones {out : List D} (h : ∀ z ∈ out, oneL z) : ∃ cs : List Nat, (∀ c ∈ cs, 97 ≤ c ∧ c ≤ 122) ∧ out = cs.map fun c => D.str ⟨#[c]⟩ := by
  induction out with
  | nil => exact ⟨[], (fun _ z => by cases z), rfl⟩
  | cons d ds ih =>
    obtain ⟨cs, h1, h2⟩ := ih fun z hz => h z (List.mem_cons_of_mem _ hz)
    obtain ⟨c, c1, c2, rfl⟩ := h d List.mem_cons_self
    refine ⟨c :: cs, fun x hx => ?_, by rw [h2]; rfl⟩
    rcases List.mem_cons.mp hx with e | hx
    · subst e; exact ⟨c1, c2⟩
    · exact h1 x hx
theorem letter_at {j : Int} (h0 : 0 ≤ j) (h1 : j < 26) : ∃ z, ixD (.str "abcdefghijklmnopqrstuvwxyz") (.int j) = some z ∧ oneL z := by
  have hl : (("abcdefghijklmnopqrstuvwxyz" : Str)).cps.toList.length = 26 := by decide
  have al : (("abcdefghijklmnopqrstuvwxyz" : Str)).cps.toList.all (fun c => decide (97 ≤ c) && decide (c ≤ 122)) = true := by decide
  generalize ("abcdefghijklmnopqrstuvwxyz" : Str) = L at hl al ⊢
  have hj : j.toNat < L.cps.toList.length := by omega
  refine ⟨.str ⟨#[L.cps.toList[j.toNat]]⟩, ?_, L.cps.toList[j.toNat], ?_, ?_, rfl⟩
  · show (L2.atI L.cps.toList j).map _ = _
    have : L2.atI L.cps.toList j = some L.cps.toList[j.toNat] := by
      unfold L2.atI ixN
      rw [if_pos h0, if_pos (by omega)]
      show L.cps.toList[j.toNat]? = _
      exact List.getElem?_eq_getElem hj
    rw [this]
    rfl
  · have := List.all_eq_true.mp al _ (List.getElem_mem hj)
    rw [Bool.and_eq_true] at this
    exact of_decide_eq_true this.1
  · have := List.all_eq_true.mp al _ (List.getElem_mem hj)
    rw [Bool.and_eq_true] at this
    exact of_decide_eq_true this.2
theorem join_ones {cs : List Nat} (h : ∀ c ∈ cs, 97 ≤ c ∧ c ≤ 122) (hl : cs.length ≤ 8) : ∃ x, joinD (.str "") (.lst (cs.map fun c => D.str ⟨#[c]⟩)) = some (.str x) ∧ lowS x ∧ x.length ≤ 8 := by
  have hs : seqStrs (.lst (cs.map fun c => D.str ⟨#[c]⟩)) = some (cs.map fun c => (⟨#[c]⟩ : Str)) := by
    show strsOf _ = _
    clear h hl
    induction cs with
    | nil => rfl
    | cons c cs ih =>
      show (strsOf (cs.map fun c => D.str ⟨#[c]⟩)).map _ = _
      rw [ih]
      rfl
  have hc : (Txt.join ⟨#[]⟩ (cs.map fun c => (⟨#[c]⟩ : Str))).cps.toList = cs := by
    rw [join_empty, List.map_map]
    clear h hl hs
    induction cs with
    | nil => rfl
    | cons c cs ih =>
      rw [List.map_cons, List.flatten_cons, ih]
      rfl
  have hlen : (Txt.join ⟨#[]⟩ (cs.map fun c => (⟨#[c]⟩ : Str))).length = cs.length := by
    show (Txt.join ⟨#[]⟩ (cs.map fun c => (⟨#[c]⟩ : Str))).cps.size = _
    rw [← Array.length_toList, hc]
  have hsum : ((cs.map fun c => (⟨#[c]⟩ : Str)).map (·.length)).sum = cs.length := by
    clear h hl hs hc hlen
    induction cs with
    | nil => rfl
    | cons c cs ih =>
      rw [List.map_cons, List.map_cons, List.sum_cons, ih, List.length_cons]
      show 1 + _ = _
      omega
  refine ⟨Txt.join ⟨#[]⟩ (cs.map fun c => (⟨#[c]⟩ : Str)), ?_, ⟨by omega, fun c hm => h c (by rw [hc] at hm; exact hm)⟩, by omega⟩
  show (match D.str ⟨#[]⟩, seqStrs (.lst (cs.map fun c => D.str ⟨#[c]⟩)) with
    | .str x, some ys => if (ys.map (fun y : Str => y.length)).sum + ys.length * x.length ≤ 16777216 ∧ strGb (Txt.join x ys) = true then some (D.str (Txt.join x ys)) else none
    | _, _ => none) = _
  rw [hs]
  show (if _ ∧ _ then _ else _) = _
  rw [if_pos ⟨by rw [hsum, List.length_map]; show _ + cs.length * 0 ≤ _; omega, strGb_by (by omega) fun c hm => by
    rw [hc] at hm
    have := h c hm
    omega⟩]
theorem any_name_ok (s : Pu) : ∃ (s' : Pu) (x : Str), F__law_any_name [s.d] = .ok (.str x) [s'.d] ∧ lowS x ∧ x.length ≤ 8 := by
  obtain ⟨W, hW⟩ : ∃ W : List D, W = (["song", "singer", "behind", "never", "most", "fresh", "wheel", "any", "turn", "least", "ahead", "hand"] : List Str).map D.str := ⟨_, rfl⟩
  obtain ⟨s1, r, e1, _, _⟩ := pick_call s [.v (.lst W), .no, .no] 3 (by decide) (by decide)
  have wl : W.length = 12 := by rw [hW]; rfl
  have wb : W.length ≤ 16777216 := by omega
  have hWs : [D.str "song", .str "singer", .str "behind", .str "never", .str "most", .str "fresh", .str "wheel", .str "any", .str "turn", .str "least", .str "ahead", .str "hand"] = W := hW.symm
  by_cases h : r = 0
  · subst h
    obtain ⟨s2, j, e2, j0, j1⟩ := pick_call s1 [.v (.lst W), .no, .no] 12 (by decide) (by decide)
    obtain ⟨z, ez, hz⟩ := ix_pick (L := W) j0 (by rw [wl]; exact j1)
    have hz' : ∃ x : Str, z = .str x ∧ lowS x ∧ x.length ≤ 8 := by
      rw [hW] at hz
      obtain ⟨x, hx, rfl⟩ := List.mem_map.mp hz
      have al : (["song", "singer", "behind", "never", "most", "fresh", "wheel", "any", "turn", "least", "ahead", "hand"] : List Str).all (fun x => (decide (x.length ≤ 20) && x.cps.toList.all fun c => decide (97 ≤ c) && decide (c ≤ 122)) && decide (x.length ≤ 8)) = true := by decide
      have := List.all_eq_true.mp al x hx
      rw [Bool.and_eq_true] at this
      exact ⟨x, rfl, lowS_by this.1, of_decide_eq_true this.2⟩
    obtain ⟨x, rfl, hx⟩ := hz'
    refine ⟨s2, x, ?_, hx⟩
    simp only [F__law_any_name, m__law_any_name, runF_eq, slots_p, slots_nil]
    simp [hWs, wb, e1, e2, ez]
  · obtain ⟨s2, j, e2, j0, j1⟩ := pick_call s1 [.v (.lst W), .v (.str "abcdefghijklmnopqrstuvwxyz"), .no] 8 (by decide) (by decide)
    have rg := rng_nat (n := (1 + j).toNat) (by omega)
    rw [show (((1 + j).toNat : Nat) : Int) = 1 + j by omega] at rg
    obtain ⟨s3, y, out, e3, hlen, hP⟩ := comp_each (S := Pu) (mt := tYesM) (me := eOp2 ixD (rVar 2) (rOf (eCall [true, false] false F__law_pick (aCons (rVar 0) (aCons (rOf (eC (.int 26))) aNil))))) (i := 3) (fun s x => [.p s.d, .v (.lst W), .v (.str "abcdefghijklmnopqrstuvwxyz"), x]) (fun _ _ _ => rfl) oneL
      ((List.range (1 + j).toNat).map fun i => D.int ((i : Nat) : Int)) (fun s d _ => by simp) (fun s d _ => by
        obtain ⟨s', r, e, r0, r1⟩ := pick_call s [.v (.lst W), .v (.str "abcdefghijklmnopqrstuvwxyz"), .v d] 26 (by decide) (by decide)
        obtain ⟨z, hz, ho⟩ := letter_at r0 r1
        exact ⟨s', z, by simp [e, hz], ho⟩) [] s2 .no
    obtain ⟨cs, hcs, rfl⟩ := ones hP
    rw [List.length_map, List.length_map, List.length_range] at hlen
    obtain ⟨x, hj, hx⟩ := join_ones hcs (by omega)
    refine ⟨s3, x, ?_, hx⟩
    simp only [F__law_any_name, m__law_any_name, runF_eq, slots_p, slots_nil]
    simp [hWs, wb, e1, h, e2, rg, e3, eJoin, isStr, hj, backE, wipeE, keepV]
theorem any_call (s : Pu) (ρ : Env) : ∃ (s' : Pu) (x : Str), callG [true] false F__law_any_name [.own 0] (.p s.d :: ρ) = .ok (.str x) (.p s'.d :: ρ) ∧ lowS x ∧ x.length ≤ 8 := by
  obtain ⟨s', x, h, h2⟩ := any_name_ok s
  exact ⟨s', x, call_own (i := 0) rfl rfl h rfl, h2⟩
theorem kind_ok (s : Pu) : ∃ (s' : Pu) (x : Str), F__law_kind [s.d] = .ok (.str x) [s'.d] ∧ lowS x := by
  obtain ⟨s1, x, e1, hx, hl⟩ := any_call s [.no]
  have hw : inD (.str x) (.tup [.str "any", .str "fresh"]) = some (.bl (decide (x ∈ (["any", "fresh"] : List Str)))) := in_strs x ["any", "fresh"]
  have hc : ∃ y, slD (.str x) none (some 7) = some (.str y) ∧ y.length ≤ 8 ∧ ∀ c ∈ y.cps.toList, c ∈ x.cps.toList := by
    refine ⟨cutS x none (some 7), rfl, Nat.le_trans (cutS_length x _ _) hl, fun c hc => ?_⟩
    unfold cutS at hc
    have hc2 := hc
    simp only [List.toList_toArray] at hc2
    exact List.mem_of_mem_drop (List.mem_of_mem_take hc2)
  obtain ⟨y, hy, yl, yc⟩ := hc
  have ha : addD (.str y) (.str "s") = some (.str (y ++ "s")) := add_str (by show y.length + 1 ≤ _; omega)
  have lo : lowS (y ++ "s") := by
    refine ⟨by show (y.cps ++ ("s" : Str).cps).size ≤ 20; rw [Array.size_append]; show y.length + 1 ≤ 20; omega, fun c hc => ?_⟩
    have hc2 : c ∈ y.cps.toList ++ ("s" : Str).cps.toList := by
      have : (y ++ "s" : Str).cps.toList = y.cps.toList ++ ("s" : Str).cps.toList := by show (y.cps ++ ("s" : Str).cps).toList = _; rw [Array.toList_append]
      rw [← this]; exact hc
    rcases List.mem_append.mp hc2 with q | q
    · exact hx.2 c (yc c q)
    · have : c = 115 := by simpa using (show c ∈ [115] from q)
      omega
  have sl : ∀ ρ, eSl (rVar 1) oNo (oSome (eC (.int 7))) (.p s1.d :: .v (.str x) :: ρ) = .ok (.str y) (.p s1.d :: .v (.str x) :: ρ) := fun ρ => by simp [eSl, oNo, oSome, asI, hy]
  by_cases h : x ∈ (["any", "fresh"] : List Str)
  · refine ⟨s1, y ++ "s", ?_, lo⟩
    have ix : ixD (.lst [.str x, .str (y ++ "s")]) (.int 1) = some (.str (y ++ "s")) := rfl
    have hw' : inD (.str x) (.tup [.str "any", .str "fresh"]) = some (.bl true) := by rw [hw, decide_eq_true h]
    simp only [F__law_kind, m__law_kind, runF_eq, slots_p, slots_nil]
    simp [e1, sl, ha, hw', intD, ix]
  · refine ⟨s1, x, ?_, hx⟩
    have ix : ixD (.lst [.str x, .str (y ++ "s")]) (.int 0) = some (.str x) := rfl
    have hw' : inD (.str x) (.tup [.str "any", .str "fresh"]) = some (.bl false) := by rw [hw, decide_eq_false h]
    simp only [F__law_kind, m__law_kind, runF_eq, slots_p, slots_nil]
    simp [e1, sl, ha, hw', intD, ix]
end NV

set_option Elab.async false
set_option linter.all false
set_option maxRecDepth 100000
set_option maxHeartbeats 4000000
namespace NV
open PySem PySem.Spec PyProof.Rows L2
theorem strI_ok {i : Int} (h0 : 0 ≤ i) (h1 : i ≤ 100000) : strI [.int i] = some (.str (toString i : Str)) := by
  have hl : i.natAbs.log2 < 1920 := by
    by_cases z : i.natAbs = 0
    · rw [z]; decide
    · exact Nat.lt_of_lt_of_le ((Nat.log2_lt z).mpr (show i.natAbs < 2 ^ 20 by omega)) (by decide)
  show (if _ ∧ _ then _ else _) = _
  rw [if_pos]
  refine ⟨hl, ?_⟩
  unfold strGb
  rw [Bool.and_eq_true]
  refine ⟨decide_eq_true (int_text_fits hl), strOk_by fun c hc => ?_⟩
  have e := PySem.Str.ofString_eq_toList (toString i)
  have hc2 : c ∈ (PySem.Str.ofString (toString i)).cps.toList := hc
  rw [e] at hc2
  have hc3 : c ∈ (toString i).toList.map Char.toNat := by simpa using hc2
  obtain ⟨ch, _, rfl⟩ := List.mem_map.mp hc3
  have := ch.valid
  rcases this with q | q
  · exact Nat.lt_trans q (by decide)
  · exact q.2
/-! ### odd things -/
/-- what is drawn of a leaf -/
def leaf (d : D) : Prop := d = .non ∨ (∃ i : Int, d = .int i ∧ 0 ≤ i ∧ i ≤ 100000) ∨ ∃ x : Str, d = .str x ∧ lowS x
theorem rep3 {xs : List D} (h : xs.length ≤ 100) : repD (.lst xs) (.int 3) = some (.lst (xs ++ (xs ++ xs))) := by
  show (if _ then some (D.lst (repL xs 3)) else none) = _
  rw [if_pos ⟨by decide, by decide, by rw [sizeLine_eq]; show xs.length * 3 ≤ _; omega⟩]
  show some (D.lst (List.replicate 3 xs).flatten) = _
  simp [List.replicate]
theorem odd_ok (s : Pu) (d : D) (hd : leaf d) : ∃ (s' : Pu) (z : D), F__law_odd [s.d, d] = .ok z [s'.d] ∧ good z = true := by
  have p1 : powD (.int 10) (.int 20) = some (.int 100000000000000000000) := by
    show (if CPow 10 20 then _ else none) = _
    rw [if_pos ⟨by decide, by decide, by decide⟩]
    rfl
  rcases hd with rfl | ⟨i, rfl, i0, i1⟩ | ⟨x, rfl, hx⟩
  · obtain ⟨L, hL⟩ : ∃ L : List D, L = [.non, .bl true, .bl false, .int 0, .int 1, .int (-1), .int 100000000000000000000, .str "", .str "a", .str "any", .str "fresh", .str "abcdefghi", .str "A", .str "a b", .str "a\n", .tup [], .lst [], .dct []] := ⟨_, rfl⟩
    have gL : L.all good = true := by rw [hL]; rfl
    have ll : L.length = 18 := by rw [hL]; rfl
    obtain ⟨s1, r, e1, r0, r1⟩ := pick_call s [.v .non, .v (.lst L)] 18 (by decide) (by decide)
    obtain ⟨z, ez, hz⟩ := ix_pick (L := L) r0 (by rw [ll]; exact r1)
    refine ⟨s1, z, ?_, List.all_eq_true.mp gL z hz⟩
    have hc : catD (.lst [.non, .bl true, .bl false, .int 0, .int 1, .int (-1), .int 100000000000000000000, .str "", .str "a", .str "any", .str "fresh", .str "abcdefghi", .str "A", .str "a b"]) (.lst [.str "a\n", .tup [], .lst [], .dct []]) = some (.lst L) := by
      rw [hL]
      exact cat_ok (by decide)
    simp only [F__law_odd, m__law_odd, runF_eq, slots_p, slots_v, slots_nil]
    simp [eNeg, p1, hc, isT, lenD, ll, e1, ez]
  · obtain ⟨L0, hL0⟩ : ∃ L : List D, L = [.non, .bl true, .bl false, .int 0, .int 1, .int (-1), .int 100000000000000000000, .str "", .str "a", .str "any", .str "fresh", .str "abcdefghi", .str "A", .str "a b", .str "a\n", .tup [], .lst [], .dct []] := ⟨_, rfl⟩
    obtain ⟨T, hT⟩ : ∃ T : List D, T = [.int (i + 1), .int (i - 1), .int (0 - i), .str (toString i : Str), .tup [.int i], .lst [.int i], .dct [(.inr "a", .int i)]] := ⟨_, rfl⟩
    obtain ⟨L, hL⟩ : ∃ L : List D, L = [.non, .bl true, .bl false, .int 0, .int 1, .int (-1), .int 100000000000000000000, .str "", .str "a"] ++ (T ++ (T ++ T)) := ⟨_, rfl⟩
    have gL : L.all good = true := by rw [hL, hT]; rfl
    have lT : T.length = 7 := by rw [hT]; rfl
    have ll : L.length = 30 := by rw [hL, hT]; rfl
    obtain ⟨s1, r, e1, r0, r1⟩ := pick_call s [.v (.int i), .v (.lst L)] 30 (by decide) (by decide)
    obtain ⟨z, ez, hz⟩ := ix_pick (L := L) r0 (by rw [ll]; exact r1)
    refine ⟨s1, z, ?_, List.all_eq_true.mp gL z hz⟩
    have hc : catD (.lst [.non, .bl true, .bl false, .int 0, .int 1, .int (-1), .int 100000000000000000000, .str "", .str "a", .str "any", .str "fresh", .str "abcdefghi", .str "A", .str "a b"]) (.lst [.str "a\n", .tup [], .lst [], .dct []]) = some (.lst L0) := by
      rw [hL0]
      exact cat_ok (by decide)
    have hs : ∀ ρ, eSl (rVar 2) oNo (oSome (eC (.int 9))) (.p s.d :: .v (.int i) :: .v (.lst L0) :: ρ) = .ok (.lst (L0.take 9)) (.p s.d :: .v (.int i) :: .v (.lst L0) :: ρ) := fun ρ => by
      have : slD (.lst L0) none (some 9) = some (.lst (L0.take 9)) := by
        show some (D.lst (cutL L0 none (some ((9 : Nat) : Int)))) = _
        rw [cut_to]
      simp [eSl, oNo, oSome, asI, this]
    have r3 : repD (.lst T) (.int 3) = some (.lst (T ++ (T ++ T))) := rep3 (by omega)
    have hc2 : catD (.lst (L0.take 9)) (.lst (T ++ (T ++ T))) = some (.lst L) := by
      rw [cat_ok (by rw [List.length_take, List.length_append, List.length_append, lT]; omega), hL, hL0]
      rfl
    have dc : keysD [(.str "a", .int i)] = some [(.inr "a", .int i)] := rfl
    have T' : [D.int (i + 1), .int (i - 1), .int (0 - i), .str (toString i : Str), .tup [.int i], .lst [.int i], .dct [(.inr "a", .int i)]] = T := hT.symm
    have T2 : [D.int (i + 1), .int (i - 1), .int (-i), .str (PySem.Str.ofString i.repr), .tup [.int i], .lst [.int i], .dct [(.inr "a", .int i)]] = T := by rw [hT, Int.zero_sub]; rfl
    simp only [F__law_odd, m__law_odd, runF_eq, slots_p, slots_v, slots_nil]
    simp [eNeg, p1, hc, isT, lenD, hs, strI_ok i0 i1, eDct, pCons, pNil, dc, T', T2, lT, r3, hc2, ll, e1, ez]
  · obtain ⟨L0, hL0⟩ : ∃ L : List D, L = [.non, .bl true, .bl false, .int 0, .int 1, .int (-1), .int 100000000000000000000, .str "", .str "a", .str "any", .str "fresh", .str "abcdefghi", .str "A", .str "a b", .str "a\n", .tup [], .lst [], .dct []] := ⟨_, rfl⟩
    have lx := hx.1
    obtain ⟨y1, hy1⟩ : ∃ y, slD (.str x) (some 1) none = some (.str y) := ⟨_, rfl⟩
    obtain ⟨T, hT⟩ : ∃ T : List D, T = [.str (x ++ "z"), .str y1, .str (Txt.upper x), .str (x ++ " "), .str ("a" ++ x), .tup [.str x], .lst [.str x]] := ⟨_, rfl⟩
    obtain ⟨L, hL⟩ : ∃ L : List D, L = (L0 ++ T) ++ [.str (revS x)] := ⟨_, rfl⟩
    have gL : L.all good = true := by rw [hL, hL0, hT]; rfl
    have lT : T.length = 7 := by rw [hT]; rfl
    have l0 : L0.length = 18 := by rw [hL0]; rfl
    have ll : L.length = 26 := by rw [hL, List.length_append, List.length_append, l0, lT]; rfl
    obtain ⟨s1, r, e1, r0, r1⟩ := pick_call s [.v (.str x), .v (.lst L)] 26 (by decide) (by decide)
    obtain ⟨z, ez, hz⟩ := ix_pick (L := L) r0 (by rw [ll]; exact r1)
    refine ⟨s1, z, ?_, List.all_eq_true.mp gL z hz⟩
    have hc : catD (.lst [.non, .bl true, .bl false, .int 0, .int 1, .int (-1), .int 100000000000000000000, .str "", .str "a", .str "any", .str "fresh", .str "abcdefghi", .str "A", .str "a b"]) (.lst [.str "a\n", .tup [], .lst [], .dct []]) = some (.lst L0) := by
      rw [hL0]
      exact cat_ok (by decide)
    have hs : ∀ ρ, eSl (rVar 1) (oSome (eC (.int 1))) oNo (.p s.d :: .v (.str x) :: ρ) = .ok (.str y1) (.p s.d :: .v (.str x) :: ρ) := fun ρ => by simp [eSl, oNo, oSome, asI, hy1]
    have a1 : addD (.str x) (.str "z") = some (.str (x ++ "z")) := add_str (by show x.length + 1 ≤ _; omega)
    have a2 : addD (.str x) (.str " ") = some (.str (x ++ " ")) := add_str (by show x.length + 1 ≤ _; omega)
    have a3 : addD (.str "a") (.str x) = some (.str ("a" ++ x)) := add_str (by show 1 + x.length ≤ _; omega)
    obtain ⟨u1, u2⟩ := upper_ok hx
    have T' : [D.str (x ++ "z"), .str y1, .str (Txt.upper x), .str (x ++ " "), .str ("a" ++ x), .tup [.str x], .lst [.str x]] = T := hT.symm
    have hc2 : catD (.lst L0) (.lst T) = some (.lst (L0 ++ T)) := cat_ok (by omega)
    have hc3 : catD (.lst (L0 ++ T)) (.lst [.str (revS x)]) = some (.lst L) := by
      rw [hL]
      exact cat_ok (by rw [List.length_append, l0, lT]; show 18 + 7 + 1 ≤ 16777216; decide)
    have rv : revD (.str x) = some (.str (revS x)) := rfl
    simp only [F__law_odd, m__law_odd, runF_eq, slots_p, slots_v, slots_nil]
    simp [eNeg, p1, hc, isT, lenD, hs, a1, a2, a3, eUpper, u1, u2, T', lT, hc2, eRev, rv, hc3, ll, e1, ez]
theorem kind_call' (s : Pu) (ρ : Env) : ∃ (s' : Pu) (x : Str), callG [true] false F__law_kind [.own 0] (.p s.d :: ρ) = .ok (.str x) (.p s'.d :: ρ) ∧ lowS x := by
  obtain ⟨s', x, h, h2⟩ := kind_ok s
  exact ⟨s', x, call_own (i := 0) rfl rfl h rfl, h2⟩
theorem odd_call (s : Pu) (ρ : Env) (d : D) (hd : leaf d) : ∃ (s' : Pu) (z : D), callG [true, false] false F__law_odd [.own 0, .val d] (.p s.d :: ρ) = .ok z (.p s'.d :: ρ) ∧ good z = true := by
  obtain ⟨s', z, h, h2⟩ := odd_ok s d hd
  exact ⟨s', z, call_own (i := 0) rfl rfl h rfl, h2⟩
theorem ix_ints {L : List Int} {r : Int} (h0 : 0 ≤ r) (h1 : r < (L.length : Int)) : ∃ z : Int, ixD (.lst (L.map D.int)) (.int r) = some (.int z) ∧ z ∈ L := by
  obtain ⟨z, e, hz⟩ := ix_pick (L := L.map D.int) h0 (by rw [List.length_map]; exact h1)
  obtain ⟨i, hi, rfl⟩ := List.mem_map.mp hz
  exact ⟨i, e, hi⟩
/-- what is turned: n deep -/
def tIn : Nat → D → Prop
  | 0, d => leaf d
  | n + 1, d => leaf d ∨ ∃ xs : List D, d = .tup xs ∧ xs.length ≤ 13 ∧ ∀ x ∈ xs, tIn n x
theorem leaf_good {d : D} (h : leaf d) : good d = true := by
  rcases h with rfl | ⟨i, rfl, _⟩ | ⟨x, rfl, _⟩ <;> rfl
theorem tIn_good : ∀ (n : Nat) {d : D}, tIn n d → good d = true
  | 0, _, h => leaf_good h
  | n + 1, _, h => by
    rcases h with h | ⟨xs, rfl, hl, hx⟩
    · exact leaf_good h
    · rw [good_tup, Bool.and_eq_true]
      exact ⟨List.all_eq_true.mpr fun d hd => tIn_good n (hx d hd), decide_eq_true (by omega)⟩
theorem tIn_up {n : Nat} {d : D} (h : leaf d) : tIn n d := by
  cases n with
  | zero => exact h
  | succ n => exact .inl h
theorem tIn_names {n : Nat} {xs : List Str} (h : ∀ x ∈ xs, lowS x) (hl : xs.length ≤ 13) : tIn (n + 1) (.tup (xs.map D.str)) :=
  .inr ⟨_, rfl, by rw [List.length_map]; exact hl, fun d hd => by
    obtain ⟨x, hx, rfl⟩ := List.mem_map.mp hd
    exact tIn_up (.inr (.inr ⟨x, rfl, h x hx⟩))⟩
end NV

set_option Elab.async false
set_option linter.all false
set_option maxRecDepth 100000
set_option maxHeartbeats 4000000
namespace NV
open PySem PySem.Spec PyProof.Rows L2
/-- a cut of a tuple -/
theorem sl_sub (xs : List D) (lo hi : Option Int) : ∃ ys, slD (.tup xs) lo hi = some (.tup ys) ∧ (∀ y ∈ ys, y ∈ xs) ∧ ys.length ≤ xs.length := by
  refine ⟨cutL xs lo hi, rfl, fun y hy => ?_, ?_⟩
  · unfold cutL at hy
    exact List.mem_of_mem_drop (List.mem_of_mem_take hy)
  · unfold cutL
    rw [List.length_take, List.length_drop]
    omega
theorem isT_leaf {d : D} (h : leaf d) : isT .tuple d = some (.bl false) := by
  rcases h with rfl | ⟨i, rfl, _⟩ | ⟨x, rfl, _⟩ <;> rfl
theorem good_of {xs : List D} (h : ∀ x ∈ xs, good x = true) (hl : xs.length < 60) : good (.tup xs) = true := by
  rw [good_tup, Bool.and_eq_true]
  exact ⟨List.all_eq_true.mpr h, decide_eq_true hl⟩
theorem turned_ok : ∀ (n k : Nat), n < k → ∀ (s : Pu) (d : D), tIn n d → ∃ (s' : Pu) (z : D), recF [true, false] 4 m__law_turned k [s.d, d] = .ok z [s'.d] ∧ good z = true
  | n, 0, hk, _, _, _ => by omega
  | n, k + 1, hk, s, d, hd => by
    have lf : leaf d → ∃ (s' : Pu) (z : D), recF [true, false] 4 m__law_turned (k + 1) [s.d, d] = .ok z [s'.d] ∧ good z = true := fun h => by
      obtain ⟨s1, z, e, hz⟩ := odd_call s [.v d, .no, .no] d h
      refine ⟨s1, z, ?_, hz⟩
      unfold recF
      simp only [m__law_turned, runF_eq, slots_p, slots_v, slots_nil]
      simp [isT_leaf h, e]
    cases n with
    | zero => exact lf hd
    | succ n =>
      rcases hd with h | ⟨xs, rfl, hl, hx⟩
      · exact lf h
      · have gx : ∀ x ∈ xs, good x = true := fun x h => tIn_good n (hx x h)
        obtain ⟨s1, at_, e1, a0, a1⟩ := pick_call s [.v (.tup xs), .no, .no] ((xs.length : Int) + 1) (by omega) (by omega)
        obtain ⟨y1, f1, m1, l1⟩ := sl_sub xs none (some at_)
        obtain ⟨y2, f2, m2, l2⟩ := sl_sub xs (some (at_ + 1)) none
        obtain ⟨y3, f3, m3, l3⟩ := sl_sub xs (some at_) (some (at_ + 1))
        obtain ⟨y4, f4, m4, l4⟩ := sl_sub xs (some at_) none
        have s1e : ∀ (u : Pu) (ρ : Env), eSl (rVar 1) oNo (oSome (eVar 2)) (.p u.d :: .v (.tup xs) :: .v (.int at_) :: ρ) = .ok (.tup y1) (.p u.d :: .v (.tup xs) :: .v (.int at_) :: ρ) := fun u ρ => by simp [eSl, oNo, oSome, asI, f1]
        have s2e : ∀ (u : Pu) (ρ : Env), eSl (rVar 1) (oSome (eOp2 addD (rVar 2) (rOf (eC (.int 1))))) oNo (.p u.d :: .v (.tup xs) :: .v (.int at_) :: ρ) = .ok (.tup y2) (.p u.d :: .v (.tup xs) :: .v (.int at_) :: ρ) := fun u ρ => by simp [eSl, oNo, oSome, asI, f2]
        have s3e : ∀ (u : Pu) (ρ : Env), eSl (rVar 1) (oSome (eVar 2)) (oSome (eOp2 addD (rVar 2) (rOf (eC (.int 1))))) (.p u.d :: .v (.tup xs) :: .v (.int at_) :: ρ) = .ok (.tup y3) (.p u.d :: .v (.tup xs) :: .v (.int at_) :: ρ) := fun u ρ => by simp [eSl, oNo, oSome, asI, f3]
        have s4e : ∀ (u : Pu) (ρ : Env), eSl (rVar 1) (oSome (eVar 2)) oNo (.p u.d :: .v (.tup xs) :: .v (.int at_) :: ρ) = .ok (.tup y4) (.p u.d :: .v (.tup xs) :: .v (.int at_) :: ρ) := fun u ρ => by simp [eSl, oNo, oSome, asI, f4]
        have ad : ∀ {a b : List D}, a.length ≤ 30 → b.length ≤ 30 → addD (.tup a) (.tup b) = some (.tup (a ++ b)) := fun h1 h2 => add_tup (by omega)
        have down : ∀ s1 : Pu, ∃ (s' : Pu) (z : D) (ρ : Env), (sSeq (sSet 3 (eLst (lCons (eOp2 addD (rOf (eSl (rVar 1) oNo (oSome (eVar 2)))) (rOf (eSl (rVar 1) (oSome (eOp2 addD (rVar 2) (rOf (eC (.int 1))))) oNo))) (lCons (eOp2 addD (rOf (eOp2 addD (rOf (eSl (rVar 1) oNo (oSome (eVar 2)))) (rOf (eSl (rVar 1) (oSome (eVar 2)) (oSome (eOp2 addD (rVar 2) (rOf (eC (.int 1))))))))) (rOf (eSl (rVar 1) (oSome (eVar 2)) oNo))) (lCons (eCallB listD (aCons (rVar 1) aNil)) lNil))))) (sSeq (sSet 3 (eOp2 catD (rVar 3) (rOf (eLst (lCons (eRev (rVar 1)) (lCons (eTup (lCons (eVar 1) lNil)) lNil)))))) (sRet (eOp2 ixD (rOf (eOp2 catD (rVar 3) (rOf (eLst (lCons (eOp2 addD (rOf (eOp2 addD (rOf (eSl (rVar 1) oNo (oSome (eVar 2)))) (rOf (eTup (lCons (eCall [true, false] false F__law_odd (aCons (rVar 0) (aCons (rOf (eC .non)) aNil))) lNil))))) (rOf (eSl (rVar 1) (oSome (eVar 2)) oNo))) (lCons (eTup lNil) lNil)))))) (rOf (eCall [true, false] false F__law_pick (aCons (rVar 0) (aCons (rOf (eC (.int 7))) aNil)))))))) [.p s1.d, .v (.tup xs), .v (.int at_), .no] = .rt z (.p s'.d :: .v (.tup xs) :: ρ) ∧ good z = true := by
          intro s1
          have ld : listD [.tup xs] = some (.lst xs) := rfl
          have rv : revD (.tup xs) = some (.tup xs.reverse) := rfl
          obtain ⟨L1, hL1⟩ : ∃ L : List D, L = [.tup (y1 ++ y2), .tup ((y1 ++ y3) ++ y4), .lst xs] ++ [.tup xs.reverse, .tup [.tup xs]] := ⟨_, rfl⟩
          obtain ⟨s2, z0, e2, hz0⟩ := odd_call s1 [.v (.tup xs), .v (.int at_), .v (.lst L1)] .non (.inl rfl)
          obtain ⟨s3, r, e3, b0, b1⟩ := pick_call s2 [.v (.tup xs), .v (.int at_), .v (.lst L1)] 7 (by decide) (by decide)
          obtain ⟨L, hL⟩ : ∃ L : List D, L = L1 ++ [.tup ((y1 ++ [z0]) ++ y4), .tup []] := ⟨_, rfl⟩
          have ll : L.length = 7 := by rw [hL, hL1]; rfl
          obtain ⟨z, ez, hz⟩ := ix_pick (L := L) b0 (by rw [ll]; exact b1)
          have gz : good z = true := by
            have mem : ∀ {a b : List D}, (∀ y ∈ a, good y = true) → (∀ y ∈ b, good y = true) → ∀ y ∈ a ++ b, good y = true := fun h1 h2 y hy => (List.mem_append.mp hy).elim (h1 y) (h2 y)
            have g1 := fun y h => gx y (m1 y h)
            have g2 := fun y h => gx y (m2 y h)
            have g3 := fun y h => gx y (m3 y h)
            have g4 := fun y h => gx y (m4 y h)
            rw [hL, hL1] at hz
            simp only [List.mem_append, List.mem_cons, List.not_mem_nil, or_false] at hz
            rcases hz with ((rfl | rfl | rfl) | (rfl | rfl)) | (rfl | rfl)
            · exact good_of (mem g1 g2) (by rw [List.length_append]; omega)
            · exact good_of (mem (mem g1 g3) g4) (by rw [List.length_append, List.length_append]; omega)
            · rfl
            · exact good_of (fun y hy => gx y (List.mem_reverse.mp hy)) (by rw [List.length_reverse]; omega)
            · exact good_of (fun y hy => by
                have : y = .tup xs := by simpa using hy
                exact this ▸ good_of gx (by omega)) (by simp)
            · exact good_of (mem (mem g1 fun y hy => by
                have : y = z0 := by simpa using hy
                exact this ▸ hz0) g4) (by simp only [List.length_append, List.length_cons, List.length_nil]; omega)
            · exact good_of (fun _ h => by cases h) (by simp)
          have c1 : catD (.lst [.tup (y1 ++ y2), .tup ((y1 ++ y3) ++ y4), .lst xs]) (.lst [.tup xs.reverse, .tup [.tup xs]]) = some (.lst L1) := by rw [hL1]; exact cat_ok (by simp)
          have c2 : catD (.lst L1) (.lst [.tup ((y1 ++ [z0]) ++ y4), .tup []]) = some (.lst L) := by rw [hL]; exact cat_ok (by rw [hL1]; simp)
          have d1 : addD (.tup y1) (.tup y2) = some (.tup (y1 ++ y2)) := ad (by omega) (by omega)
          have d2 : addD (.tup y1) (.tup y3) = some (.tup (y1 ++ y3)) := ad (by omega) (by omega)
          have d3 : addD (.tup (y1 ++ y3)) (.tup y4) = some (.tup ((y1 ++ y3) ++ y4)) := ad (by rw [List.length_append]; omega) (by omega)
          have d4 : addD (.tup y1) (.tup [z0]) = some (.tup (y1 ++ [z0])) := ad (by omega) (by simp)
          have d5 : addD (.tup (y1 ++ [z0])) (.tup y4) = some (.tup ((y1 ++ [z0]) ++ y4)) := ad (by rw [List.length_append]; simp; omega) (by omega)
          refine ⟨s3, z, [.v (.int at_), .v (.lst L1)], ?_, gz⟩
          simp [s1e, s2e, s3e, s4e, d1, d2, d3, d4, d5, ld, eRev, rv, c1, e2, c2, e3, ez, -List.append_assoc]
        have e1' : callG [true, false] false F__law_pick [.own 0, .val (.int ((xs.length : Int) + 1))] [.p s.d, .v (.tup xs), .no, .no] = .ok (.int at_) [.p s1.d, .v (.tup xs), .no, .no] := e1
        by_cases hlt : at_ < (xs.length : Int)
        · obtain ⟨s2, r, e2, b0, b1⟩ := pick_call s1 [.v (.tup xs), .v (.int at_), .no] 4 (by decide) (by decide)
          by_cases hr : 0 < r
          · have hi : at_.toNat < xs.length := by omega
            have ix := ix_tup xs at_.toNat hi
            rw [show ((at_.toNat : Nat) : Int) = at_ by omega] at ix
            obtain ⟨s3, z, e3, hz⟩ := turned_ok n k (by omega) s2 xs[at_.toNat] (hx _ (List.getElem_mem hi))
            have e3' : callG [true, false] false (recF [true, false] 4 m__law_turned k) [.own 0, .val xs[at_.toNat]] [.p s2.d, .v (.tup xs), .v (.int at_), .no] = .ok z [.p s3.d, .v (.tup xs), .v (.int at_), .no] := call_own (i := 0) rfl rfl e3 rfl
            have d4 : addD (.tup y1) (.tup [z]) = some (.tup (y1 ++ [z])) := ad (by omega) (by simp)
            have d5 : addD (.tup (y1 ++ [z])) (.tup y2) = some (.tup ((y1 ++ [z]) ++ y2)) := ad (by rw [List.length_append]; simp; omega) (by omega)
            refine ⟨s3, .tup ((y1 ++ [z]) ++ y2), ?_, good_of (fun y hy => ?_) (by simp only [List.length_append, List.length_cons, List.length_nil]; omega)⟩
            · unfold recF
              simp only [m__law_turned, runF_eq, slots_p, slots_v, slots_nil]
              simp [isT, lenD, e1', hlt, e2, hr, s1e, s2e, ix, e3', d4, d5, -List.append_assoc]
            · rcases List.mem_append.mp hy with q | q
              · rcases List.mem_append.mp q with q | q
                · exact gx y (m1 y q)
                · have : y = z := by simpa using q
                  exact this ▸ hz
              · exact gx y (m2 y q)
          · obtain ⟨s', z, ρ, e3, hz⟩ := down s2
            refine ⟨s', z, ?_, hz⟩
            unfold recF
            simp only [m__law_turned, runF_eq, slots_p, slots_v, slots_nil]
            generalize hb : (sSeq (sSet 3 (eLst _)) _) = bd at e3
            simp [isT, lenD, e1', hlt, e2, hr, hb]
            rw [e3]
            simp
        · obtain ⟨s', z, ρ, e3, hz⟩ := down s1
          refine ⟨s', z, ?_, hz⟩
          unfold recF
          simp only [m__law_turned, runF_eq, slots_p, slots_v, slots_nil]
          generalize hb : (sSeq (sSet 3 (eLst _)) _) = bd at e3
          simp [isT, lenD, e1', hlt, hb]
          rw [e3]
          simp
end NV

set_option Elab.async false
set_option linter.all false
set_option maxRecDepth 100000
set_option maxHeartbeats 4000000
namespace NV
open PySem PySem.Spec PyProof.Rows L2
theorem rep4 (x : D) : repD (.lst [x]) (.int 4) = some (.lst [x, x, x, x]) := by
  show (if -(2 ^ 63 : Int) ≤ 4 ∧ (4 : Int) < 2 ^ 63 ∧ ([x].length * (4 : Int).toNat ≤ sizeLine) then some (D.lst (repL [x] 4)) else none) = _
  rw [if_pos ⟨by decide, by decide, by rw [sizeLine_eq]; simp⟩]
  rfl
theorem number_ok (s : Pu) (lo hi : Int) (h0 : 0 ≤ lo) (h1 : lo < hi) (h2 : hi ≤ 99999) : ∃ (s' : Pu) (i : Int), F__law_number [s.d, .int lo, .int hi] = .ok (.int i) [s'.d] ∧ lo ≤ i ∧ i ≤ hi := by
  obtain ⟨s1, r, e1, r0, r1⟩ := pick_call s [.v (.int lo), .v (.int hi), .v (.lst [.int lo, .int hi, .int (lo + 1), .int (hi - 1)])] (hi - lo + 1) (by omega) (by omega)
  obtain ⟨s2, j, e2, j0, j1⟩ := pick_call s1 [.v (.int lo), .v (.int hi), .v (.lst [.int lo, .int hi, .int (lo + 1), .int (hi - 1)])] 8 (by decide) (by decide)
  obtain ⟨z, ez, hz⟩ := ix_ints (L := [lo, hi, lo + 1, hi - 1, lo + r, lo + r, lo + r, lo + r]) j0 (by simpa using j1)
  have ez' : ixD (.lst [.int lo, .int hi, .int (lo + 1), .int (hi - 1), .int (lo + r), .int (lo + r), .int (lo + r), .int (lo + r)]) (.int j) = some (.int z) := ez
  have r4 := rep4 (.int (lo + r))
  have c1 : catD (.lst [.int lo, .int hi, .int (lo + 1), .int (hi - 1)]) (.lst [.int (lo + r), .int (lo + r), .int (lo + r), .int (lo + r)]) = some (.lst [.int lo, .int hi, .int (lo + 1), .int (hi - 1), .int (lo + r), .int (lo + r), .int (lo + r), .int (lo + r)]) := cat_ok (by simp)
  refine ⟨s2, z, ?_, ?_⟩
  · simp only [F__law_number, m__law_number, runF_eq, slots_p, slots_v, slots_nil]
    simp [e1, r4, c1, e2, ez']
  · simp only [List.mem_cons, List.not_mem_nil, or_false] at hz
    omega
theorem number_call (s : Pu) (ρ : Env) (lo hi : Int) (h0 : 0 ≤ lo) (h1 : lo < hi) (h2 : hi ≤ 99999) : ∃ (s' : Pu) (i : Int), callG [true, false, false] false F__law_number [.own 0, .val (.int lo), .val (.int hi)] (.p s.d :: ρ) = .ok (.int i) (.p s'.d :: ρ) ∧ lo ≤ i ∧ i ≤ hi := by
  obtain ⟨s', i, h, h2⟩ := number_ok s lo hi h0 h1 h2
  exact ⟨s', i, call_own (i := 0) rfl rfl h rfl, h2⟩
theorem comp_test {S : Type} {mt : TM} {me : EM} {i : Nat} (e : S → Slot → Env) (hset : ∀ s x y, (e s x).set i y = e s y) : ∀ (ds : List D), (∀ s, ∀ d ∈ ds, ∃ s' b, mt (e s (.v d)) = .ok b (e s' (.v d))) → (∀ s, ∀ d ∈ ds, me (e s (.v d)) = .ok d (e s (.v d))) →
    ∀ (acc : List D) (s : S) (x : Slot), ∃ s' y out, compL (gNm i) mt me [i] ds acc (e s x) = .ok (acc ++ out) (e s' y) ∧ out.length ≤ ds.length ∧ ∀ z ∈ out, z ∈ ds
  | [], _, _, acc, s, x => ⟨s, x, [], by simp [compL], Nat.le_refl _, fun _ z => by cases z⟩
  | d :: ds, ht, he, acc, s, x => by
    obtain ⟨s1, b, h1⟩ := ht s d List.mem_cons_self
    have es : (wipeE (e s x) [i]).set i (.v d) = e s (.v d) := by rw [show wipeE (e s x) [i] = (e s x).set i .no from rfl, hset, hset]
    cases b with
    | true =>
      obtain ⟨s', y, out, e2, hl, hP⟩ := comp_test e hset ds (fun s d hd => ht s d (List.mem_cons_of_mem _ hd)) (fun s d hd => he s d (List.mem_cons_of_mem _ hd)) (acc ++ [d]) s1 (.v d)
      refine ⟨s', y, d :: out, ?_, by simp; omega, fun w hw => (List.mem_cons.mp hw).elim (fun q => q ▸ List.mem_cons_self) fun q => List.mem_cons_of_mem _ (hP w q)⟩
      unfold compL
      simp only [gNm_eq, es, h1, noexc_ok, bind_ok', if_true, he s1 d List.mem_cons_self]
      rw [e2]
      simp
    | false =>
      obtain ⟨s', y, out, e2, hl, hP⟩ := comp_test e hset ds (fun s d hd => ht s d (List.mem_cons_of_mem _ hd)) (fun s d hd => he s d (List.mem_cons_of_mem _ hd)) acc s1 (.v d)
      refine ⟨s', y, out, ?_, by simp; omega, fun w hw => List.mem_cons_of_mem _ (hP w hw)⟩
      unfold compL
      simp only [gNm_eq, es, h1, noexc_ok, bind_ok', if_false, Bool.false_eq_true]
      rw [e2]
theorem leafI {i : Int} (h0 : 0 ≤ i) (h1 : i ≤ 100000) (n : Nat) : tIn n (.int i) := tIn_up (.inr (.inl ⟨i, rfl, h0, h1⟩))
theorem leafS {x : Str} (h : lowS x) (n : Nat) : tIn n (.str x) := tIn_up (.inr (.inr ⟨x, rfl, h⟩))
theorem tIn_tup {n : Nat} {xs : List D} (h : ∀ x ∈ xs, tIn n x) (hl : xs.length ≤ 13) : tIn (n + 1) (.tup xs) := .inr ⟨xs, rfl, hl, h⟩
end NV

set_option Elab.async false
set_option linter.all false
set_option maxRecDepth 100000
set_option maxHeartbeats 4000000
namespace NV
open PySem PySem.Spec PyProof.Rows L2
theorem low_const {x : Str} (h : (decide (x.length ≤ 20) && x.cps.toList.all fun c => decide (97 ≤ c) && decide (c ≤ 122)) = true) (n : Nat) : tIn n (.str x) := leafS (lowS_by h) n
theorem rule01 (s : Pu) (way : Int) (hw : way = 0 ∨ way = 1) : ∃ (s' : Pu) (z : D), F__law_rule [s.d, .int way] = .ok z [s'.d] ∧ tIn 2 z := by
  obtain ⟨s1, i, e1, i0, i1⟩ := number_call s [.v (.int way), .no, .no, .no, .no, .no, .no] 0 99999 (by decide) (by decide) (by decide)
  rcases hw with rfl | rfl
  · have ix : ixD (.lst [.str "song", .str "singer"]) (.int 0) = some (.str "song") := rfl
    refine ⟨s1, .tup [.str "song", .int i], ?_, tIn_tup (fun d hd => ?_) (by simp)⟩
    · simp only [F__law_rule, m__law_rule, runF_eq, slots_p, slots_v, slots_nil]
      simp [ix, e1]
    · simp only [List.mem_cons, List.not_mem_nil, or_false] at hd
      rcases hd with rfl | rfl
      · exact low_const (by decide) 1
      · exact leafI i0 (by omega) 1
  · have ix : ixD (.lst [.str "song", .str "singer"]) (.int 1) = some (.str "singer") := rfl
    refine ⟨s1, .tup [.str "singer", .int i], ?_, tIn_tup (fun d hd => ?_) (by simp)⟩
    · simp only [F__law_rule, m__law_rule, runF_eq, slots_p, slots_v, slots_nil]
      simp [ix, e1]
    · simp only [List.mem_cons, List.not_mem_nil, or_false] at hd
      rcases hd with rfl | rfl
      · exact low_const (by decide) 1
      · exact leafI i0 (by omega) 1
theorem rule2 (s : Pu) : ∃ (s' : Pu) (z : D), F__law_rule [s.d, .int 2] = .ok z [s'.d] ∧ tIn 2 z := by
  obtain ⟨s1, x, e1, hx⟩ := kind_call' s [.v (.int 2), .no, .no, .no, .no, .no, .no]
  obtain ⟨s2, y, e2, hy⟩ := kind_call' s1 [.v (.int 2), .no, .no, .no, .no, .no, .no]
  refine ⟨s2, .tup [.str "behind", .str x, .str y], ?_, tIn_tup (fun d hd => ?_) (by simp)⟩
  · simp only [F__law_rule, m__law_rule, runF_eq, slots_p, slots_v, slots_nil]
    simp [e1, e2]
  · simp only [List.mem_cons, List.not_mem_nil, or_false] at hd
    rcases hd with rfl | rfl | rfl
    · exact low_const (by decide) 1
    · exact leafS hx 1
    · exact leafS hy 1
theorem rule4 (s : Pu) : ∃ (s' : Pu) (z : D), F__law_rule [s.d, .int 4] = .ok z [s'.d] ∧ tIn 2 z := by
  obtain ⟨s1, x, e1, hx⟩ := kind_call' s [.v (.int 4), .no, .no, .no, .no, .no, .no]
  obtain ⟨s2, i, e2, i0, i1⟩ := number_call s1 [.v (.int 4), .no, .no, .no, .no, .no, .no] 1 99 (by decide) (by decide) (by decide)
  obtain ⟨s3, j, e3, j0, j1⟩ := number_call s2 [.v (.int 4), .no, .no, .no, .no, .no, .no] 0 99999 (by decide) (by decide) (by decide)
  refine ⟨s3, .tup [.str "most", .str x, .int i, .int j], ?_, tIn_tup (fun d hd => ?_) (by simp)⟩
  · simp only [F__law_rule, m__law_rule, runF_eq, slots_p, slots_v, slots_nil]
    simp [e1, e2, e3]
  · simp only [List.mem_cons, List.not_mem_nil, or_false] at hd
    rcases hd with rfl | rfl | rfl | rfl
    · exact low_const (by decide) 1
    · exact leafS hx 1
    · exact leafI (by omega) (by omega) 1
    · exact leafI (by omega) (by omega) 1
theorem rule5 (s : Pu) : ∃ (s' : Pu) (z : D), F__law_rule [s.d, .int 5] = .ok z [s'.d] ∧ tIn 2 z := by
  obtain ⟨s3, j, e3, j0, j1⟩ := number_call s [.v (.int 5), .no, .no, .no, .no, .no, .no] 0 99999 (by decide) (by decide) (by decide)
  refine ⟨s3, .tup [.str "fresh", .int j], ?_, tIn_tup (fun d hd => ?_) (by simp)⟩
  · simp only [F__law_rule, m__law_rule, runF_eq, slots_p, slots_v, slots_nil]
    simp [e3]
  · simp only [List.mem_cons, List.not_mem_nil, or_false] at hd
    rcases hd with rfl | rfl
    · exact low_const (by decide) 1
    · exact leafI (by omega) (by omega) 1
theorem rule6 (s : Pu) : ∃ (s' : Pu) (z : D), F__law_rule [s.d, .int 6] = .ok z [s'.d] ∧ tIn 2 z := by
  obtain ⟨s1, r, e1, r0, r1⟩ := pick_call s [.v (.int 6), .no, .no, .no, .no, .no, .no] 4 (by decide) (by decide)
  obtain ⟨n, ez, hn⟩ : ∃ n : Nat, ixD (.lst [.int 1, .int 2, .int 7, .int 8]) (.int r) = some (.int (n : Int)) ∧ n ≤ 8 := by
    have : r = 0 ∨ r = 1 ∨ r = 2 ∨ r = 3 := by omega
    rcases this with rfl | rfl | rfl | rfl
    · exact ⟨1, rfl, by decide⟩
    · exact ⟨2, rfl, by decide⟩
    · exact ⟨7, rfl, by decide⟩
    · exact ⟨8, rfl, by decide⟩
  have rg := rng_nat (n := n) (by omega)
  obtain ⟨s2, y, out, e2, hlen, hP⟩ := comp_each (S := Pu) (mt := tYesM) (me := eCall [true] false F__law_any_name (aCons (rVar 0) aNil)) (i := 7) (fun s x => [.p s.d, .v (.int 6), .v (.int (n : Int)), .no, .no, .no, .no, x]) (fun _ _ _ => rfl) (tIn 0)
    ((List.range n).map fun i => D.int ((i : Nat) : Int)) (fun s d _ => by simp) (fun s d _ => by
      obtain ⟨s', x, e, hx, _⟩ := any_call s [.v (.int 6), .v (.int (n : Int)), .no, .no, .no, .no, .v d]
      exact ⟨s', .str x, by simp [e], leafS hx 0⟩) [] s1 .no
  rw [List.length_map, List.length_range] at hlen
  have tt : tuple3D [.lst out] = some (.tup out) := rfl
  refine ⟨s2, .tup [.str "wheel", .tup out], ?_, tIn_tup (fun d hd => ?_) (by simp)⟩
  · simp only [F__law_rule, m__law_rule, runF_eq, slots_p, slots_v, slots_nil]
    simp [e1, ez, rg, e2, tt, backE, wipeE, keepV]
  · simp only [List.mem_cons, List.not_mem_nil, or_false] at hd
    rcases hd with rfl | rfl
    · exact low_const (by decide) 1
    · exact tIn_tup hP (by omega)
end NV

set_option Elab.async false
set_option linter.all false
set_option maxRecDepth 100000
set_option maxHeartbeats 4000000
namespace NV
open PySem PySem.Spec PyProof.Rows L2
theorem rule3 (s : Pu) : ∃ (s' : Pu) (z : D), F__law_rule [s.d, .int 3] = .ok z [s'.d] ∧ tIn 2 z := by
  have rg := rng_nat (n := 7) (by decide)
  have rg' : rng1 (.int 7) = some ((List.range 7).map fun i => D.int ((i : Nat) : Int)) := rg
  obtain ⟨s1, y, out, e1, hlen, hP⟩ := comp_test (S := Pu) (mt := tOfE (eOp2 eqO (rOf (eCall [true, false] false F__law_pick (aCons (rVar 0) (aCons (rOf (eC (.int 2))) aNil)))) (rOf (eC (.int 1))))) (me := eVar 6) (i := 6) (fun s x => [.p s.d, .v (.int 3), .no, .no, .no, .no, x, .no]) (fun _ _ _ => rfl)
    ((List.range 7).map fun i => D.int ((i : Nat) : Int)) (fun s d _ => by
      obtain ⟨s', r, e, _, _⟩ := pick_call s [.v (.int 3), .no, .no, .no, .no, .v d, .no] 2 (by decide) (by decide)
      exact ⟨s', decide (r = 1), by simp [e]⟩) (fun s d _ => by simp) [] s .no
  rw [List.length_map, List.length_range] at hlen
  rw [List.nil_append] at e1
  have hI : ∀ z ∈ out, tIn 0 z := fun z hz => by
    obtain ⟨k, hk, rfl⟩ := List.mem_map.mp (hP z hz)
    have := List.mem_range.mp hk
    exact leafI (by omega) (by omega) 0
  have tt : tuple3D [.lst out] = some (.tup out) := rfl
  obtain ⟨s2, st, e2, st0, st1⟩ := number_call s1 [.v (.int 3), .no, .v (.tup out), .no, .no, .no, .no] 0 23 (by decide) (by decide) (by decide)
  obtain ⟨s3, r, e3, r0, r1⟩ := pick_call s2 [.v (.int 3), .no, .v (.tup out), .v (.int st), .no, .no, .no] (24 - st) (by omega) (by omega)
  obtain ⟨s4, j, e4, j0, j1⟩ := pick_call s3 [.v (.int 3), .no, .v (.tup out), .v (.int st), .no, .no, .no] 3 (by decide) (by decide)
  obtain ⟨en, ez, en0, en1⟩ : ∃ en : Int, ixD (.lst [.int 24, .int (st + 1), .int (st + 1 + r)]) (.int j) = some (.int en) ∧ 0 ≤ en ∧ en ≤ 100000 := by
    have : j = 0 ∨ j = 1 ∨ j = 2 := by omega
    rcases this with rfl | rfl | rfl
    · exact ⟨24, rfl, by decide, by decide⟩
    · exact ⟨st + 1, rfl, by omega, by omega⟩
    · exact ⟨st + 1 + r, rfl, by omega, by omega⟩
  obtain ⟨s5, x, e5, hx⟩ := kind_call' s4 [.v (.int 3), .no, .v (.tup out), .v (.int st), .v (.int en), .no, .no]
  have em : eqO (.tup out) (.tup []) = some (.bl out.isEmpty) := rfl
  obtain ⟨days, ed, hd, hl⟩ : ∃ days : List D, (∃ (k : Int) (m : List D), intD [.bl out.isEmpty] = some (.int k) ∧ mul3 (.tup [.int 3]) (.int k) = some (.tup m) ∧ addD (.tup out) (.tup m) = some (.tup days)) ∧ (∀ z ∈ days, tIn 0 z) ∧ days.length ≤ 13 := by
    cases out.isEmpty with
    | true =>
      refine ⟨out ++ [.int 3], ⟨1, [.int 3], rfl, rfl, add_tup (by simp; omega)⟩, fun z hz => ?_, by simp; omega⟩
      rcases List.mem_append.mp hz with q | q
      · exact hI z q
      · simp only [List.mem_cons, List.not_mem_nil, or_false] at q
        subst q
        exact leafI (by decide) (by decide) 0
    | false => exact ⟨out ++ [], ⟨0, [], rfl, rfl, add_tup (by simp; omega)⟩, fun z hz => hI z (by simpa using hz), by simp; omega⟩
  obtain ⟨k, m, d1, d2, d3⟩ := ed
  refine ⟨s5, .tup [.str "never", .str x, .tup days, .int st, .int en], ?_, tIn_tup (fun d hd' => ?_) (by simp)⟩
  · simp only [F__law_rule, m__law_rule, runF_eq, slots_p, slots_v, slots_nil]
    simp [rg', e1, tt, backE, wipeE, keepV, e2, e3, e4, ez, e5, em, d1, d2, d3]
  · simp only [List.mem_cons, List.not_mem_nil, or_false] at hd'
    rcases hd' with rfl | rfl | rfl | rfl | rfl
    · exact low_const (by decide) 1
    · exact leafS hx 1
    · exact tIn_tup hd hl
    · exact leafI (by omega) (by omega) 1
    · exact leafI en0 en1 1
end NV

set_option Elab.async false
set_option linter.all false
set_option maxRecDepth 100000
set_option maxHeartbeats 4000000
namespace NV
open PySem PySem.Spec PyProof.Rows L2
theorem rule_ok (s : Pu) (way : Int) (h0 : 0 ≤ way) (h1 : way ≤ 6) : ∃ (s' : Pu) (z : D), F__law_rule [s.d, .int way] = .ok z [s'.d] ∧ tIn 2 z := by
  have : way = 0 ∨ way = 1 ∨ way = 2 ∨ way = 3 ∨ way = 4 ∨ way = 5 ∨ way = 6 := by omega
  rcases this with h | h | rfl | rfl | rfl | rfl | rfl
  · exact rule01 s way (.inl h)
  · exact rule01 s way (.inr h)
  · exact rule2 s
  · exact rule3 s
  · exact rule4 s
  · exact rule5 s
  · exact rule6 s
theorem rule_draw (s : Pu) (ρ : Env) (way : Int) (h0 : 0 ≤ way) (h1 : way ≤ 6) : ∃ (s' : Pu) (z : D), callG [true, false] false F__law_rule [.own 0, .val (.int way)] (.p s.d :: ρ) = .ok z (.p s'.d :: ρ) ∧ tIn 2 z := by
  obtain ⟨s', z, h, h2⟩ := rule_ok s way h0 h1
  exact ⟨s', z, call_own (i := 0) rfl rfl h rfl, h2⟩
theorem leaf_okD {d : D} (h : leaf d) (k : Nat) : okD k d = true := by
  rcases h with rfl | ⟨i, rfl, _⟩ | ⟨x, rfl, _⟩ <;> cases k <;> rfl
theorem okL_of {k : Nat} : ∀ {xs : List D}, (∀ x ∈ xs, okD k x = true) → okL k xs = true
  | [], _ => by cases k <;> rfl
  | d :: xs, h => by
    rw [okL, h d List.mem_cons_self, okL_of fun x hx => h x (List.mem_cons_of_mem _ hx)]
    rfl
theorem tIn_okD : ∀ (n k : Nat), n ≤ k → ∀ {d : D}, tIn n d → okD k d = true
  | 0, k, _, _, h => leaf_okD h k
  | n + 1, k, hk, d, h => by
    rcases h with h | ⟨xs, rfl, _, hx⟩
    · exact leaf_okD h k
    · cases k with
      | zero => omega
      | succ k =>
        rw [okD]
        exact okL_of fun x hxs => tIn_okD n k (by omega) (hx x hxs)
theorem ne_nil {L : List D} (h : ∀ x ∈ L, tIn 2 x) : neO (.lst L) (.lst []) = some (.bl (!L.isEmpty)) := by
  show (if okD 60 (.lst L) = true ∧ okD 60 (.lst []) = true then some (D.bl (!eqD (.lst L) (.lst []))) else none) = _
  rw [if_pos ⟨okL_of fun x hx => tIn_okD 2 59 (by decide) (h x hx), rfl⟩]
  unfold eqD
  cases L <;> simp [toPy, toPyL, PyData.eqv, PyData.eqvAll]
end NV

set_option Elab.async false
set_option linter.all false
set_option maxRecDepth 100000
set_option maxHeartbeats 4000000
namespace NV
open PySem PySem.Spec PyProof.Rows L2
def bodyR : SM := (sIf (tAndM (tOfE (eOp2 neO (rVar 2) (rOf (eLst lNil)))) (tOfE (eOp2 eqO (rOf (eCall [true, false] false F__law_pick (aCons (rVar 0) (aCons (rOf (eC (.int 3))) aNil)))) (rOf (eC (.int 0)))))) (sSetIx 2 (eCall [true, false] false F__law_rule (aCons (rVar 0) (aCons (rVar 3) aNil))) (eCall [true, false] false F__law_pick (aCons (rVar 0) (aCons (rOf (eCallB lenD (aCons (rVar 2) aNil))) aNil)))) sNil)
theorem bodyR_ok (s : Pu) (many way : Int) (h0 : 0 ≤ way) (h1 : way ≤ 6) (L : List D) (hl : L.length ≤ 13) (hL : ∀ x ∈ L, tIn 2 x) : ∃ (s' : Pu) (L' : List D), bodyR [.p s.d, .v (.int many), .o (.lst L), .v (.int way), .no] = .nx [.p s'.d, .v (.int many), .o (.lst L'), .v (.int way), .no] ∧ L'.length ≤ 13 ∧ ∀ x ∈ L', tIn 2 x := by
  have ne := ne_nil hL
  cases he : L.isEmpty with
  | true =>
    rw [he] at ne
    exact ⟨s, L, by simp [bodyR, ne], hl, hL⟩
  | false =>
    rw [he] at ne
    have pos : 0 < L.length := by
      cases L with
      | nil => cases he
      | cons _ _ => simp
    obtain ⟨s1, r, e1, _, _⟩ := pick_call s [.v (.int many), .o (.lst L), .v (.int way), .no] 3 (by decide) (by decide)
    by_cases hr : r = 0
    · subst hr
      obtain ⟨s2, z, e2, hz⟩ := rule_draw s1 [.v (.int many), .o (.lst L), .v (.int way), .no] way h0 h1
      obtain ⟨s3, j, e3, j0, j1⟩ := pick_call s2 [.v (.int many), .o (.lst L), .v (.int way), .no] (L.length : Int) (by omega) (by omega)
      have hx : ixN L.length j = some j.toNat := by
        unfold ixN
        rw [if_pos j0, if_pos (by omega)]
      have ln : lenD [.lst L] = some (.int (L.length : Int)) := rfl
      refine ⟨s3, L.set j.toNat z, ?_, by rw [List.length_set]; exact hl, fun x hx => ?_⟩
      · simp [bodyR, ne, e1, sSetIx, e2, ln, e3, hx, ownGet, ownSet]
      · rcases List.mem_or_eq_of_mem_set hx with q | q
        · exact hL x q
        · exact q ▸ hz
    · exact ⟨s1, L, by simp [bodyR, ne, e1, hr], hl, hL⟩
end NV

set_option Elab.async false
set_option linter.all false
set_option maxRecDepth 100000
set_option maxHeartbeats 4000000
namespace NV
open PySem PySem.Spec PyProof.Rows L2
theorem rules_ok (s : Pu) (n : Nat) (hn : n ≤ 13) : ∃ (s' : Pu) (z : D), F__law_rules [s.d, .int (n : Int)] = .ok z [s'.d] ∧ tIn 3 z := by
  have rg := rng_nat (n := n) (by omega)
  obtain ⟨s1, y, out, e1, hlen, hP⟩ := comp_each (S := Pu) (mt := tYesM) (me := eCall [true, false] false F__law_rule (aCons (rVar 0) (aCons (rOf (eCall [true, false] false F__law_pick (aCons (rVar 0) (aCons (rOf (eC (.int 5))) aNil)))) aNil))) (i := 4) (fun s x => [.p s.d, .v (.int (n : Int)), .no, .no, x]) (fun _ _ _ => rfl) (tIn 2)
    ((List.range n).map fun i => D.int ((i : Nat) : Int)) (fun s d _ => by simp) (fun s d _ => by
      obtain ⟨s1, r, f1, r0, r1⟩ := pick_call s [.v (.int (n : Int)), .no, .no, .v d] 5 (by decide) (by decide)
      obtain ⟨s2, z, f2, hz⟩ := rule_draw s1 [.v (.int (n : Int)), .no, .no, .v d] r r0 (by omega)
      exact ⟨s2, z, by simp [f1, f2], hz⟩) [] s .no
  rw [List.length_map, List.length_range] at hlen
  rw [List.nil_append] at e1
  obtain ⟨ρ', e2, s2, L, w, hρ, hl, hL⟩ := for_cnt (g := gNm 3) (body := bodyR) (fun _ ρ => ∃ (s : Pu) (L : List D) (w : Slot), ρ = [.p s.d, .v (.int (n : Int)), .o (.lst L), w, .no] ∧ L.length ≤ 13 ∧ ∀ x ∈ L, tIn 2 x) [.int 5, .int 6, .int 5, .int 6] 0 (fun j d hd ρ ⟨s, L, w, hρ, hl, hL⟩ _ => by
    subst hρ
    simp only [List.mem_cons, List.not_mem_nil, or_false] at hd
    have : ∃ way : Int, d = .int way ∧ 0 ≤ way ∧ way ≤ 6 := by
      rcases hd with rfl | rfl | rfl | rfl
      · exact ⟨5, rfl, by decide, by decide⟩
      · exact ⟨6, rfl, by decide, by decide⟩
      · exact ⟨5, rfl, by decide, by decide⟩
      · exact ⟨6, rfl, by decide, by decide⟩
    obtain ⟨way, rfl, w0, w1⟩ := this
    obtain ⟨s', L', e, hl', hL'⟩ := bodyR_ok s (n : Int) way w0 w1 L hl hL
    exact ⟨_, _, rfl, e, s', L', _, rfl, hl', hL'⟩) [.p s1.d, .v (.int (n : Int)), .o (.lst out), .no, .no] ⟨s1, out, .no, rfl, by omega, hP⟩
  subst hρ
  have tt : tuple3D [.lst L] = some (.tup L) := rfl
  refine ⟨s2, .tup L, ?_, tIn_tup hL hl⟩
  unfold bodyR at e2
  simp only [F__law_rules, m__law_rules, runF_eq, slots_p, slots_v, slots_nil]
  simp [rg, e1, e2, tt, backE, wipeE, keepV]
end NV

set_option Elab.async false
set_option linter.all false
set_option maxRecDepth 100000
set_option maxHeartbeats 4000000
namespace NV
open PySem PySem.Spec PyProof.Rows L2
def fixOk : FRes → Bool
  | .ok (.lst L) [] => L.all good
  | _ => false
theorem fixed_dec : fixOk (F__law_fixed []) = true := by decide +kernel
theorem fixed_ok : ∃ L, F__law_fixed [] = .ok (.lst L) [] ∧ L.all good = true := by
  have h := fixed_dec
  unfold fixOk at h
  split at h
  · rename_i L e
    exact ⟨L, e, h⟩
  · cases h
theorem all_true (L : List D) : allD2 [.lst (L.map fun _ => D.bl true)] = some (.bl true) := by
  rw [all_map L fun _ => true]
  simp
theorem rng_small {n : Int} (h0 : 0 ≤ n) (h1 : n ≤ 1000) : rng1 (.int n) = some (rngD 0 n.toNat) := by
  show (if n ≤ 16777216 ∧ -(2 ^ 62 : Int) ≤ n then some (rngD 0 n.toNat) else none) = _
  rw [if_pos ⟨by omega, by omega⟩]
def bodyL : SM := (sSeq (sSetO 2 (eCall [false] true F__law_purse (aCons (rOf (eCall [false, false] false F__law_cell (aCons (rVar 0) (aCons (rVar 1) aNil)))) aNil))) (sSeq (sSet 3 (eCall [true, false] false F__law_rules (aCons (rVar 2) (aCons (rOf (eOp2 ixD (rOf (eLst (lCons (eC (.int 0)) (lCons (eC (.int 1)) (lCons (eC (.int 2)) (lCons (eC (.int 3)) (lCons (eC (.int 4)) (lCons (eC (.int 12)) (lCons (eC (.int 13)) (lCons (eC (.int 5)) lNil)))))))))) (rOf (eCall [true, false] false F__law_pick (aCons (rVar 2) (aCons (rOf (eC (.int 8))) aNil)))))) aNil)))) (sIf (tOrM (tNotM (tOfE (eCall [false] false F__law_right (aCons (rVar 3) aNil)))) (tNotM (tOfE (eCallB allD2 (aCons (rOf (eComp (iRange1 (eC (.int 5))) (gNm 5) tYesM (eCall [false] false F__law_right (aCons (rOf (eCall [true, false] false F__law_turned (aCons (rVar 2) (aCons (rVar 3) aNil)))) aNil)) [5])) aNil))))) (sRet (eC (.bl false))) sNil)))
theorem body_ok (ns : List Int) (k : Int) (h0 : 0 ≤ k) (h1 : k < 1000) (s2 s3 s4 s5 : Slot) : ∃ t2 t3 t4 t5, bodyL [.v (.scr ns), .v (.int k), s2, s3, s4, s5] = .nx [.v (.scr ns), .v (.int k), t2, t3, t4, t5] := by
  obtain ⟨v, e1⟩ := cell_ok ns k h0 h1
  obtain ⟨p0, e2⟩ := purse_ok v
  have c1 := fun ρ => call_val (fl := [false, false]) (F := F__law_cell) (rs := [.val (.scr ns), .val (.int k)]) (ρ := ρ) rfl rfl e1 (.inl rfl)
  have c2 := fun ρ => call_valF (fl := [false]) (F := F__law_purse) (rs := [.val (.int v)]) (ρ := ρ) rfl rfl e2 (.inl rfl)
  obtain ⟨p1, r, e3, r0, r1⟩ := pick_pu p0 8 (by decide) (by decide)
  have c3 : callG [true, false] false F__law_pick [.own 2, .val (.int 8)] [.v (.scr ns), .v (.int k), .o p0.d, s3, s4, s5] = .ok (.int r) [.v (.scr ns), .v (.int k), .o p1.d, s3, s4, s5] := call_own (i := 2) rfl rfl e3 rfl
  obtain ⟨n, ez, hn⟩ : ∃ n : Nat, ixD (.lst [.int 0, .int 1, .int 2, .int 3, .int 4, .int 12, .int 13, .int 5]) (.int r) = some (.int (n : Int)) ∧ n ≤ 13 := by
    have : r = 0 ∨ r = 1 ∨ r = 2 ∨ r = 3 ∨ r = 4 ∨ r = 5 ∨ r = 6 ∨ r = 7 := by omega
    rcases this with rfl | rfl | rfl | rfl | rfl | rfl | rfl | rfl
    · exact ⟨0, rfl, by decide⟩
    · exact ⟨1, rfl, by decide⟩
    · exact ⟨2, rfl, by decide⟩
    · exact ⟨3, rfl, by decide⟩
    · exact ⟨4, rfl, by decide⟩
    · exact ⟨12, rfl, by decide⟩
    · exact ⟨13, rfl, by decide⟩
    · exact ⟨5, rfl, by decide⟩
  obtain ⟨p2, z, e4, hz⟩ := rules_ok p1 n hn
  have c4 : callG [true, false] false F__law_rules [.own 2, .val (.int (n : Int))] [.v (.scr ns), .v (.int k), .o p1.d, s3, s4, s5] = .ok z [.v (.scr ns), .v (.int k), .o p2.d, s3, s4, s5] := call_own (i := 2) rfl rfl e4 rfl
  have rt := right_call (tIn_good 3 hz)
  have r5 : rng1 (.int 5) = some ((List.range 5).map fun i => D.int ((i : Nat) : Int)) := rng_nat (n := 5) (by decide)
  obtain ⟨p3, y, out, e5, l1, g1⟩ := comp_each (S := Pu) (mt := tYesM) (me := eCall [false] false F__law_right (aCons (rOf (eCall [true, false] false F__law_turned (aCons (rVar 2) (aCons (rVar 3) aNil)))) aNil)) (i := 5) (fun p x => [.v (.scr ns), .v (.int k), .o p.d, .v z, s4, x]) (fun _ _ _ => rfl) (fun z => z = .bl true) ((List.range 5).map fun i => D.int ((i : Nat) : Int)) (fun p d _ => by simp) (fun p d _ => by
    obtain ⟨p', w, e, hw⟩ := turned_ok 3 8 (by decide) p z hz
    have c : callG [true, false] false F__law_turned [.own 2, .val z] [.v (.scr ns), .v (.int k), .o p.d, .v z, s4, .v d] = .ok w [.v (.scr ns), .v (.int k), .o p'.d, .v z, s4, .v d] := call_own (i := 2) rfl rfl e rfl
    exact ⟨p', .bl true, by simp [c, right_call hw], rfl⟩) [] p2 s5
  rw [List.length_map, List.length_range] at l1
  rw [List.nil_append] at e5
  have ho : out = List.map (fun _ => D.bl true) out := by
    conv => lhs; rw [← List.map_id out]
    exact List.map_congr_left fun z hz => g1 z hz
  have al := all_true out
  rw [← ho] at al
  refine ⟨.o p3.d, .v z, s4, keepV s5, ?_⟩
  simp [bodyL, c1, c2, c3, ez, c4, rt, r5, e5, al, backE, wipeE, keepV]
end NV

set_option Elab.async false
set_option linter.all false
set_option maxRecDepth 100000
set_option maxHeartbeats 4000000
namespace NV
open PySem PySem.Spec PyProof.Rows L2
theorem law_ok (ns : List Int) : F_law [.scr ns] = .ok (.bl true) [] := by
  obtain ⟨L, eL, gL⟩ := fixed_ok
  obtain ⟨y, e0⟩ := comp_D (mt := tYesM) (me := eCall [false] false F__law_right (aCons (rVar 4) aNil)) (i := 4) (fun x => [.v (.scr ns), .no, .no, .no, x, .no]) (fun _ _ => rfl) L (fun _ => .bl true) (fun d _ => by simp) (fun d hd => by simp [right_call (List.all_eq_true.mp gL d hd)]) .no
  have al := all_true L
  have f0 : ∀ ρ, eCall0 false F__law_fixed ρ = .ok (.lst L) ρ := fun ρ => by
    unfold eCall0
    rw [eL]
    rfl
  obtain ⟨n, hn, e1, e2⟩ : ∃ n : Int, n ≤ 12 ∧ max2D [.int 2, .int (if (ns.length : Int) < 12 then (ns.length : Int) else 12)] = some (.int n) ∧ rng1 (.int n) = some (rngD 0 n.toNat) := by
    have b1 : ∀ j : Int, 0 ≤ j → j ≤ 12 → ∃ n : Int, n ≤ 12 ∧ max2D [.int 2, .int j] = some (.int n) ∧ rng1 (.int n) = some (rngD 0 n.toNat) := fun j j0 j1 => by
      by_cases h : 2 < j
      · exact ⟨j, j1, by simp [max2D, h], rng_small j0 (by omega)⟩
      · exact ⟨2, by omega, by simp [max2D, h], rng_small (by omega) (by omega)⟩
    exact b1 _ (by split <;> omega) (by split <;> omega)
  obtain ⟨ρ', e, t1, t2, t3, t4, t5, he⟩ := for_inv (g := gNm 1) (body := bodyL) (fun ρ => ∃ s1 s2 s3 s4 s5 : Slot, ρ = [.v (.scr ns), s1, s2, s3, s4, s5]) (rngD 0 n.toNat)
    (fun d hd ρ ⟨s1, s2, s3, s4, s5, hr⟩ => by
      unfold rngD at hd
      obtain ⟨i, hi, rfl⟩ := List.mem_map.mp hd
      have := List.mem_range.mp hi
      subst hr
      obtain ⟨t2, t3, t4, t5, ee⟩ := body_ok ns (0 + (i : Int)) (by omega) (by omega) s2 s3 s4 s5
      exact ⟨_, _, rfl, .inl ee, _, _, _, _, _, rfl⟩) [.v (.scr ns), .no, .no, .no, .no, .no] ⟨_, _, _, _, _, rfl⟩
  subst he
  have mn : min2D [.int 12, .int (ns.length : Int)] = some (.int (if (ns.length : Int) < 12 then (ns.length : Int) else 12)) := rfl
  have ln : lenD [.scr ns] = some (.int (ns.length : Int)) := rfl
  unfold bodyL at e
  simp only [F_law, m_law, runF_eq, slots_v, slots_nil]
  simp [f0, e0, al, backE, wipeE, keepV, ln, mn, e1, e2, e]
theorem law_all (ns : List Int) (_ : ns.length ≤ 63) (_ : ∀ z ∈ ns, Builtin.Int.intBits z ≤ 1048576) : F_law [.scr ns] = .ok (.bl true) [] := law_ok ns
end NV

set_option Elab.async false
set_option linter.all false
set_option maxRecDepth 100000
set_option maxHeartbeats 0
namespace NV
open PySem PySem.Spec PyProof.Rows L2
def d_is_whole : He.DefD := ⟨("is_whole", none), "is_whole", "is_whole", defArgs S_is_whole, defBody S_is_whole, defScope S_is_whole, [], []⟩
def d_is_name : He.DefD := ⟨("is_name", none), "is_name", "is_name", defArgs S_is_name, defBody S_is_name, defScope S_is_name, [], []⟩
def d__law_cell : He.DefD := ⟨("_law_cell", none), "_law_cell", "_law_cell", defArgs S__law_cell, defBody S__law_cell, defScope S__law_cell, [], []⟩
def d__law_purse : He.DefD := ⟨("_law_purse", none), "_law_purse", "_law_purse", defArgs S__law_purse, defBody S__law_purse, defScope S__law_purse, [], []⟩
def d__law_pick : He.DefD := ⟨("_law_pick", none), "_law_pick", "_law_pick", defArgs S__law_pick, defBody S__law_pick, defScope S__law_pick, [], []⟩
def d__law_is_name : He.DefD := ⟨("_law_is_name", none), "_law_is_name", "_law_is_name", defArgs S__law_is_name, defBody S__law_is_name, defScope S__law_is_name, [], []⟩
def d__law_within : He.DefD := ⟨("_law_within", none), "_law_within", "_law_within", defArgs S__law_within, defBody S__law_within, defScope S__law_within, [], []⟩
def d__law_fixed : He.DefD := ⟨("_law_fixed", none), "_law_fixed", "_law_fixed", defArgs S__law_fixed, defBody S__law_fixed, defScope S__law_fixed, [], []⟩
def d_is_kind : He.DefD := ⟨("is_kind", none), "is_kind", "is_kind", defArgs S_is_kind, defBody S_is_kind, defScope S_is_kind, [], []⟩
def d_is_between : He.DefD := ⟨("is_between", none), "is_between", "is_between", defArgs S_is_between, defBody S_is_between, defScope S_is_between, [], []⟩
def d__law_any_name : He.DefD := ⟨("_law_any_name", none), "_law_any_name", "_law_any_name", defArgs S__law_any_name, defBody S__law_any_name, defScope S__law_any_name, [], []⟩
def d__law_odd : He.DefD := ⟨("_law_odd", none), "_law_odd", "_law_odd", defArgs S__law_odd, defBody S__law_odd, defScope S__law_odd, [], []⟩
def d__law_is_kind : He.DefD := ⟨("_law_is_kind", none), "_law_is_kind", "_law_is_kind", defArgs S__law_is_kind, defBody S__law_is_kind, defScope S__law_is_kind, [], []⟩
def d__law_are_days : He.DefD := ⟨("_law_are_days", none), "_law_are_days", "_law_are_days", defArgs S__law_are_days, defBody S__law_are_days, defScope S__law_are_days, [], []⟩
def d__law_number : He.DefD := ⟨("_law_number", none), "_law_number", "_law_number", defArgs S__law_number, defBody S__law_number, defScope S__law_number, [], []⟩
def d_are_words : He.DefD := ⟨("are_words", none), "are_words", "are_words", defArgs S_are_words, defBody S_are_words, defScope S_are_words, [], []⟩
def d_are_days : He.DefD := ⟨("are_days", none), "are_days", "are_days", defArgs S_are_days, defBody S_are_days, defScope S_are_days, [], []⟩
def d_are_hours : He.DefD := ⟨("are_hours", none), "are_hours", "are_hours", defArgs S_are_hours, defBody S_are_hours, defScope S_are_hours, [], []⟩
def d__law_kind : He.DefD := ⟨("_law_kind", none), "_law_kind", "_law_kind", defArgs S__law_kind, defBody S__law_kind, defScope S__law_kind, [], []⟩
def d__law_is_rule : He.DefD := ⟨("_law_is_rule", none), "_law_is_rule", "_law_is_rule", defArgs S__law_is_rule, defBody S__law_is_rule, defScope S__law_is_rule, [], []⟩
def d_is_rule : He.DefD := ⟨("is_rule", none), "is_rule", "is_rule", defArgs S_is_rule, defBody S_is_rule, defScope S_is_rule, [], []⟩
def d__law_is_rules : He.DefD := ⟨("_law_is_rules", none), "_law_is_rules", "_law_is_rules", defArgs S__law_is_rules, defBody S__law_is_rules, defScope S__law_is_rules, [], []⟩
def d__law_rule : He.DefD := ⟨("_law_rule", none), "_law_rule", "_law_rule", defArgs S__law_rule, defBody S__law_rule, defScope S__law_rule, [], []⟩
def d_is_rules : He.DefD := ⟨("is_rules", none), "is_rules", "is_rules", defArgs S_is_rules, defBody S_is_rules, defScope S_is_rules, [], []⟩
def d__law_rules : He.DefD := ⟨("_law_rules", none), "_law_rules", "_law_rules", defArgs S__law_rules, defBody S__law_rules, defScope S__law_rules, [], []⟩
def d__law_right : He.DefD := ⟨("_law_right", none), "_law_right", "_law_right", defArgs S__law_right, defBody S__law_right, defScope S__law_right, [], []⟩
def d__law_turned : He.DefD := ⟨("_law_turned", none), "_law_turned", "_law_turned", defArgs S__law_turned, defBody S__law_turned, defScope S__law_turned, [], []⟩
def d_law : He.DefD := ⟨("law", none), "law", "law", defArgs S_law, defBody S_law, defScope S_law, [], []⟩
def fnL : List He.DefD := [d_is_whole, d_is_name, d__law_cell, d__law_purse, d__law_pick, d__law_is_name, d__law_within, d__law_fixed, d_is_kind, d_is_between, d__law_any_name, d__law_odd, d__law_is_kind, d__law_are_days, d__law_number, d_are_words, d_are_days, d_are_hours, d__law_kind, d__law_is_rule, d_is_rule, d__law_is_rules, d__law_rule, d_is_rules, d__law_rules, d__law_right, d__law_turned, d_law]
def faL : List He.Fa := [.glo "is_whole", .glo "is_name", .glo "_law_cell", .glo "_law_purse", .glo "_law_pick", .glo "_law_is_name", .glo "_law_within", .glo "_law_fixed", .glo "is_kind", .glo "is_between", .glo "_law_any_name", .glo "_law_odd", .glo "_law_is_kind", .glo "_law_are_days", .glo "_law_number", .glo "are_words", .glo "are_days", .glo "are_hours", .glo "_law_kind", .glo "_law_is_rule", .glo "is_rule", .glo "_law_is_rules", .glo "_law_rule", .glo "is_rules", .glo "_law_rules", .glo "_law_right", .glo "_law_turned", .glo "law", .free "isinstance", .free "bool", .free "int", .free "all", .free "len", .free "str", .free "range", .free "tuple", .free "list", .free "sorted", .free "set", .free "min", .free "max", .str "LETTERS" "abcdefghijklmnopqrstuvwxyz", .int "MOST_LETTERS" 8, .glo "WIDE", .int "MOST_WORDS" 8, .int "MOST_SPAN" 99999, .int "MOST_MANY" 99, .int "MOST_RULES" 12, .glo "ONCE"]
def xsL : List (PySem.W.Frag → Bool) := [tupS "WIDE" ["any", "fresh"], tupS "ONCE" ["fresh", "wheel"]]
abbrev R : PySem.W.OpenRow := PySem.W.OpenLaw.row PySem.Challenge.rw_neversoon_k04_what_rules_are
abbrev hk : PySem.W.Hook := hookN 4 faL xsL fnL
def ob (s : PySem.W.SharedT) : Bool × He.AlD := lookN 4 faL xsL fnL (HandSHeadRun.getT s)
theorem ob_eq (s : PySem.W.SharedT) : ob s = hk.obs s.abs := lookN_eq (HandSHeadRun.getT_eq s)
theorem run (w : World) : HandSHeadRun.RunEq R (PySem.W.view R.prog [39]) hk ob 6000 ((["is_whole", "LETTERS", "MOST_LETTERS", "WIDE", "is_name", "is_kind", "MOST_RULES", "MOST_SPAN", "MOST_MANY", "MOST_WORDS", "ONCE", "is_between", "are_words", "are_days", "are_hours", "is_rule", "is_rules", "_law_cell", "_law_purse", "_law_pick", "_law_any_name", "_law_kind", "_law_odd", "_law_turned"] : List Str) ++ (["_law_is_name", "_law_is_kind", "_law_within", "_law_are_days", "_law_is_rule", "_law_is_rules", "_law_number", "_law_rule", "_law_rules", "_law_right", "_law_fixed"] : List Str)) w := by
  intro os
  kernel_rfl
theorem facts {P : Program} {w : World} {K : PySem.W.Frag} {h : Heap} {mg : Str → Option Value} {f : Addr} (X : K.In h) (G : h.Ns mainGlobals mg) (hfa : mg ("law" : Str) = some (.ref f)) (c : saysN faL xsL fnL K) :
    ∃ fd : FuncData, (∀ (s : Shared) (v : Value), BindsTo s fd ⟨[v], []⟩ [("_law_script", v)]) ∧ ∀ base : Heap, K.In base → base.Ns mainGlobals mg → FnOk P w K mg base (L2.CX P w) 12 f fd ["_law_script"] (spF K mg [false] F_law) := by
  have n_isinstance := He.free_ok X G (c.d.fact 28 (f := .free "isinstance") rfl)
  have n_bool := He.free_ok X G (c.d.fact 29 (f := .free "bool") rfl)
  have n_int := He.free_ok X G (c.d.fact 30 (f := .free "int") rfl)
  have n_all := He.free_ok X G (c.d.fact 31 (f := .free "all") rfl)
  have n_len := He.free_ok X G (c.d.fact 32 (f := .free "len") rfl)
  have n_str := He.free_ok X G (c.d.fact 33 (f := .free "str") rfl)
  have n_range := He.free_ok X G (c.d.fact 34 (f := .free "range") rfl)
  have n_tuple := He.free_ok X G (c.d.fact 35 (f := .free "tuple") rfl)
  have n_list := He.free_ok X G (c.d.fact 36 (f := .free "list") rfl)
  have n_sorted := He.free_ok X G (c.d.fact 37 (f := .free "sorted") rfl)
  have n_set := He.free_ok X G (c.d.fact 38 (f := .free "set") rfl)
  have n_min := He.free_ok X G (c.d.fact 39 (f := .free "min") rfl)
  have n_max := He.free_ok X G (c.d.fact 40 (f := .free "max") rfl)
  have v_LETTERS : Gv K mg "LETTERS" G_LETTERS := gv_str X G (c.d.fact 41 (f := .str "LETTERS" "abcdefghijklmnopqrstuvwxyz") rfl) (by decide +kernel)
  have v_MOST_LETTERS : Gv K mg "MOST_LETTERS" G_MOST_LETTERS := gv_int X G (c.d.fact 42 (f := .int "MOST_LETTERS" 8) rfl)
  have v_WIDE : Gv K mg "WIDE" G_WIDE := gv_tupS X G (c.d.fact 43 (f := .glo "WIDE") rfl) (c.x 0 (c := tupS "WIDE" ["any", "fresh"]) rfl) (by decide +kernel)
  have v_MOST_WORDS : Gv K mg "MOST_WORDS" G_MOST_WORDS := gv_int X G (c.d.fact 44 (f := .int "MOST_WORDS" 8) rfl)
  have v_MOST_SPAN : Gv K mg "MOST_SPAN" G_MOST_SPAN := gv_int X G (c.d.fact 45 (f := .int "MOST_SPAN" 99999) rfl)
  have v_MOST_MANY : Gv K mg "MOST_MANY" G_MOST_MANY := gv_int X G (c.d.fact 46 (f := .int "MOST_MANY" 99) rfl)
  have v_MOST_RULES : Gv K mg "MOST_RULES" G_MOST_RULES := gv_int X G (c.d.fact 47 (f := .int "MOST_RULES" 12) rfl)
  have v_ONCE : Gv K mg "ONCE" G_ONCE := gv_tupS X G (c.d.fact 48 (f := .glo "ONCE") rfl) (c.x 1 (c := tupS "ONCE" ["fresh", "wheel"]) rfl) (by decide +kernel)
  obtain ⟨fd_0, D_0⟩ := c.d.def_ 0 (d := d_is_whole) rfl
  have g_0 := He.glo_ok X G (c.d.fact 0 (f := .glo "is_whole") rfl)
  obtain ⟨fd_1, D_1⟩ := c.d.def_ 1 (d := d_is_name) rfl
  have g_1 := He.glo_ok X G (c.d.fact 1 (f := .glo "is_name") rfl)
  obtain ⟨fd_2, D_2⟩ := c.d.def_ 2 (d := d__law_cell) rfl
  have g_2 := He.glo_ok X G (c.d.fact 2 (f := .glo "_law_cell") rfl)
  obtain ⟨fd_3, D_3⟩ := c.d.def_ 3 (d := d__law_purse) rfl
  have g_3 := He.glo_ok X G (c.d.fact 3 (f := .glo "_law_purse") rfl)
  obtain ⟨fd_4, D_4⟩ := c.d.def_ 4 (d := d__law_pick) rfl
  have g_4 := He.glo_ok X G (c.d.fact 4 (f := .glo "_law_pick") rfl)
  obtain ⟨fd_5, D_5⟩ := c.d.def_ 5 (d := d__law_is_name) rfl
  have g_5 := He.glo_ok X G (c.d.fact 5 (f := .glo "_law_is_name") rfl)
  obtain ⟨fd_6, D_6⟩ := c.d.def_ 6 (d := d__law_within) rfl
  have g_6 := He.glo_ok X G (c.d.fact 6 (f := .glo "_law_within") rfl)
  obtain ⟨fd_7, D_7⟩ := c.d.def_ 7 (d := d__law_fixed) rfl
  have g_7 := He.glo_ok X G (c.d.fact 7 (f := .glo "_law_fixed") rfl)
  obtain ⟨fd_8, D_8⟩ := c.d.def_ 8 (d := d_is_kind) rfl
  have g_8 := He.glo_ok X G (c.d.fact 8 (f := .glo "is_kind") rfl)
  obtain ⟨fd_9, D_9⟩ := c.d.def_ 9 (d := d_is_between) rfl
  have g_9 := He.glo_ok X G (c.d.fact 9 (f := .glo "is_between") rfl)
  obtain ⟨fd_10, D_10⟩ := c.d.def_ 10 (d := d__law_any_name) rfl
  have g_10 := He.glo_ok X G (c.d.fact 10 (f := .glo "_law_any_name") rfl)
  obtain ⟨fd_11, D_11⟩ := c.d.def_ 11 (d := d__law_odd) rfl
  have g_11 := He.glo_ok X G (c.d.fact 11 (f := .glo "_law_odd") rfl)
  obtain ⟨fd_12, D_12⟩ := c.d.def_ 12 (d := d__law_is_kind) rfl
  have g_12 := He.glo_ok X G (c.d.fact 12 (f := .glo "_law_is_kind") rfl)
  obtain ⟨fd_13, D_13⟩ := c.d.def_ 13 (d := d__law_are_days) rfl
  have g_13 := He.glo_ok X G (c.d.fact 13 (f := .glo "_law_are_days") rfl)
  obtain ⟨fd_14, D_14⟩ := c.d.def_ 14 (d := d__law_number) rfl
  have g_14 := He.glo_ok X G (c.d.fact 14 (f := .glo "_law_number") rfl)
  obtain ⟨fd_15, D_15⟩ := c.d.def_ 15 (d := d_are_words) rfl
  have g_15 := He.glo_ok X G (c.d.fact 15 (f := .glo "are_words") rfl)
  obtain ⟨fd_16, D_16⟩ := c.d.def_ 16 (d := d_are_days) rfl
  have g_16 := He.glo_ok X G (c.d.fact 16 (f := .glo "are_days") rfl)
  obtain ⟨fd_17, D_17⟩ := c.d.def_ 17 (d := d_are_hours) rfl
  have g_17 := He.glo_ok X G (c.d.fact 17 (f := .glo "are_hours") rfl)
  obtain ⟨fd_18, D_18⟩ := c.d.def_ 18 (d := d__law_kind) rfl
  have g_18 := He.glo_ok X G (c.d.fact 18 (f := .glo "_law_kind") rfl)
  obtain ⟨fd_19, D_19⟩ := c.d.def_ 19 (d := d__law_is_rule) rfl
  have g_19 := He.glo_ok X G (c.d.fact 19 (f := .glo "_law_is_rule") rfl)
  obtain ⟨fd_20, D_20⟩ := c.d.def_ 20 (d := d_is_rule) rfl
  have g_20 := He.glo_ok X G (c.d.fact 20 (f := .glo "is_rule") rfl)
  obtain ⟨fd_21, D_21⟩ := c.d.def_ 21 (d := d__law_is_rules) rfl
  have g_21 := He.glo_ok X G (c.d.fact 21 (f := .glo "_law_is_rules") rfl)
  obtain ⟨fd_22, D_22⟩ := c.d.def_ 22 (d := d__law_rule) rfl
  have g_22 := He.glo_ok X G (c.d.fact 22 (f := .glo "_law_rule") rfl)
  obtain ⟨fd_23, D_23⟩ := c.d.def_ 23 (d := d_is_rules) rfl
  have g_23 := He.glo_ok X G (c.d.fact 23 (f := .glo "is_rules") rfl)
  obtain ⟨fd_24, D_24⟩ := c.d.def_ 24 (d := d__law_rules) rfl
  have g_24 := He.glo_ok X G (c.d.fact 24 (f := .glo "_law_rules") rfl)
  obtain ⟨fd_25, D_25⟩ := c.d.def_ 25 (d := d__law_right) rfl
  have g_25 := He.glo_ok X G (c.d.fact 25 (f := .glo "_law_right") rfl)
  obtain ⟨fd_26, D_26⟩ := c.d.def_ 26 (d := d__law_turned) rfl
  have g_26 := He.glo_ok X G (c.d.fact 26 (f := .glo "_law_turned") rfl)
  obtain ⟨fd_27, D_27⟩ := c.d.def_ 27 (d := d_law) rfl
  have g_27 := He.glo_ok X G (c.d.fact 27 (f := .glo "law") rfl)
  have h_is_whole := fun base : Heap => has_is_whole (P := P) (w := w) (base := base) D_0 g_0 n_isinstance n_bool n_int
  have h_is_name := fun base : Heap => has_is_name (P := P) (w := w) (base := base) D_1 g_1 v_LETTERS v_MOST_LETTERS n_all n_len n_isinstance n_str
  have h__law_cell := fun base : Heap => has__law_cell (P := P) (w := w) (base := base) D_2 g_2 n_len
  have h__law_purse := fun base : Heap => has__law_purse (P := P) (w := w) (base := base) D_3 g_3 n_int
  have h__law_pick := fun base : Heap => has__law_pick (P := P) (w := w) (base := base) D_4 g_4 
  have h__law_is_name := fun base : Heap => has__law_is_name (P := P) (w := w) (base := base) D_5 g_5 n_len n_isinstance n_str n_all
  have h__law_within := fun base : Heap => has__law_within (P := P) (w := w) (base := base) D_6 g_6 n_isinstance n_bool n_int
  have h__law_fixed := fun base : Heap => has__law_fixed (P := P) (w := w) (base := base) D_7 g_7 
  have h_is_kind := fun base : Heap => has_is_kind (P := P) (w := w) (base := base) D_8 g_8 (h_is_name base) v_WIDE
  have h_is_between := fun base : Heap => has_is_between (P := P) (w := w) (base := base) D_9 g_9 (h_is_whole base)
  have h__law_any_name := fun base : Heap => has__law_any_name (P := P) (w := w) (base := base) D_10 g_10 (h__law_pick base) n_range
  have h__law_odd := fun base : Heap => has__law_odd (P := P) (w := w) (base := base) D_11 g_11 (h__law_pick base) n_isinstance n_int n_str n_len
  have h__law_is_kind := fun base : Heap => has__law_is_kind (P := P) (w := w) (base := base) D_12 g_12 (h__law_is_name base)
  have h__law_are_days := fun base : Heap => has__law_are_days (P := P) (w := w) (base := base) D_13 g_13 (h__law_within base) n_all n_isinstance n_tuple n_list n_sorted n_set
  have h__law_number := fun base : Heap => has__law_number (P := P) (w := w) (base := base) D_14 g_14 (h__law_pick base)
  have h_are_words := fun base : Heap => has_are_words (P := P) (w := w) (base := base) D_15 g_15 (h_is_kind base) v_MOST_WORDS v_WIDE n_len n_isinstance n_tuple n_str n_all
  have h_are_days := fun base : Heap => has_are_days (P := P) (w := w) (base := base) D_16 g_16 (h_is_between base) n_all n_isinstance n_tuple n_range n_len
  have h_are_hours := fun base : Heap => has_are_hours (P := P) (w := w) (base := base) D_17 g_17 (h_is_between base)
  have h__law_kind := fun base : Heap => has__law_kind (P := P) (w := w) (base := base) D_18 g_18 (h__law_any_name base) n_int
  have h__law_is_rule := fun base : Heap => has__law_is_rule (P := P) (w := w) (base := base) D_19 g_19 (h__law_within base) (h__law_is_kind base) (h__law_are_days base) (h__law_is_name base) n_isinstance n_str n_tuple n_len n_all
  have h_is_rule := fun base : Heap => has_is_rule (P := P) (w := w) (base := base) D_20 g_20 (h_is_between base) (h_is_kind base) (h_are_hours base) (h_are_days base) (h_are_words base) v_MOST_SPAN v_MOST_MANY n_isinstance n_str n_len n_tuple
  have h__law_is_rules := fun base : Heap => has__law_is_rules (P := P) (w := w) (base := base) D_21 g_21 (h__law_is_rule base) n_all n_len n_isinstance n_tuple
  have h__law_rule := fun base : Heap => has__law_rule (P := P) (w := w) (base := base) D_22 g_22 (h__law_number base) (h__law_kind base) (h__law_pick base) (h__law_any_name base) n_range n_tuple n_int
  have h_is_rules := fun base : Heap => has_is_rules (P := P) (w := w) (base := base) D_23 g_23 (h_is_rule base) v_MOST_RULES v_ONCE n_all n_len n_isinstance n_tuple
  have h__law_rules := fun base : Heap => has__law_rules (P := P) (w := w) (base := base) D_24 g_24 (h__law_pick base) (h__law_rule base) n_range n_len n_tuple
  have h__law_right := fun base : Heap => has__law_right (P := P) (w := w) (base := base) D_25 g_25 (h_is_rules base) (h__law_is_rules base) n_range n_isinstance n_bool
  have h__law_turned := fun base : Heap => has__law_turned (P := P) (w := w) (base := base) D_26 g_26 (h__law_odd base) (h__law_pick base) n_isinstance n_tuple n_len n_list
  have e := hfa.symm.trans g_27
  cases e
  have b := FunD.bindsA (ps := ["_law_script"]) D_27 fun _ _ _ _ _ _ us hl => match us, hl with | [_], _ => rfl
  exact ⟨fd_27, fun s v => b s [v] rfl, fun base _ _ => fn_law (P := P) (w := w) (base := base) D_27 (h__law_fixed base) (h__law_right base) (h__law_cell base) (h__law_purse base) (h__law_pick base) (h__law_rules base) (h__law_turned base) n_all n_range n_len n_min n_max⟩
end NV
open PySem PySem.W PySem.Calls PyProof.Rows
theorem PySem.Challenge.cw_neversoon_k04_what_rules_are_holds : PySem.Challenge.rw_neversoon_k04_what_rules_are.Holds := by
  w_on; o_law
  refine HandSHeadRun.head_any (r := OpenLaw.row PySem.Challenge.rw_neversoon_k04_what_rules_are) (q := view (OpenLaw.row PySem.Challenge.rw_neversoon_k04_what_rules_are).prog [39]) (H := NV.hk) (ob := NV.ob) (M := 6000) (loose := ((["is_whole", "LETTERS", "MOST_LETTERS", "WIDE", "is_name", "is_kind", "MOST_RULES", "MOST_SPAN", "MOST_MANY", "MOST_WORDS", "ONCE", "is_between", "are_words", "are_days", "are_hours", "is_rule", "is_rules", "_law_cell", "_law_purse", "_law_pick", "_law_any_name", "_law_kind", "_law_odd", "_law_turned"] : List Str) ++ (["_law_is_name", "_law_is_kind", "_law_within", "_law_are_days", "_law_is_rule", "_law_is_rules", "_law_number", "_law_rule", "_law_rules", "_law_right", "_law_fixed"] : List Str))) (d := HandSHeadRun.topDef (OpenLaw.row PySem.Challenge.rw_neversoon_k04_what_rules_are).prog 39) (kwd := []) NV.ob_eq
    (by kernel_rfl) (fun s => by kernel_rfl) NV.run (by kernel_rfl) (by kernel_rfl) (by kernel_rfl) (by rfl) (by first | assumption | decide +kernel) (by decide +kernel) ⟨rfl, rfl, rfl, rfl, rfl, by decide +kernel⟩ ?hw ?hc
  case hw => w_witness2
  case hc =>
    refine NV.walk_own (l := PySem.Challenge.rw_neversoon_k04_what_rules_are) (n := 63) (k := 12) (x := "_law_script") rfl (by decide) (by kernel_rfl) ⟨rfl, by decide, by decide⟩ ?F
    intro w mg fa h Y G hmg0
    obtain ⟨K, KX, c⟩ := Y
    have hmg : mg ("law" : PySem.Str) = some (.ref fa) := by
      have e : (HandSHeadRun.topDef (OpenLaw.row PySem.Challenge.rw_neversoon_k04_what_rules_are).prog 39).name = ("law" : PySem.Str) := by kernel_rfl
      rw [← e]
      exact hmg0
    obtain ⟨fd, hb, hF⟩ := NV.facts (P := (PySem.Challenge.rw_neversoon_k04_what_rules_are).prog) (w := w) KX G hmg c
    exact ⟨K, fd, NV.F_law, KX, hb, fun ns hl hb => NV.law_all ns hl hb, hF⟩
