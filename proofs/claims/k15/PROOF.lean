import PyProof.Rows.All
import Wide.All
import OpenK.AllK
import Wide.FinOn
import HandS.ForSpec
import HandS.ForMost
import HandS.Flow
import HandS.Style
import HandS.TupAny
import HandS.Conv
import HandS.Deep
import HandS.IsInst
import HandS.Text
import HandS.Zip
import KE.LtData
import KE.DataCmp
import KE.DataMinMax
import HandS.HeadHook2
import HandS.Head0
import HandS.Head1
import HandS.Head2
import HandS.HeadEnd
import HandS.HeadHook1
import HandS.HeadWalk
import PySem.Challenge.RW_neversoon_k15_breaches_held
set_option Elab.async false
set_option linter.all false
set_option maxRecDepth 100000
set_option maxHeartbeats 4000000
/-! Core1: data, its representation, environments. -/
namespace NV
open PySem PySem.Spec PyProof.Rows L2
abbrev St := List (Option V)

inductive D where
  | non | bl (b : Bool) | int (i : Int) | str (x : Str)
  | tup (xs : List D) | lst (xs : List D) | dct (kvs : List (Key × D))
  | exn (c : Str) (fs : List D)
  /-- the script -/
  | scr (xs : List Int)
  deriving Inhabited

/-- a text that may stand in a list, a tuple, a dict -/
def StrG (x : Str) : Prop := x.length ≤ sizeLine ∧ PySem.PyData.strOk x = true

/-- the script: it is known to the object, or stands in the written part -/
def SqS (K : PySem.W.Frag) (H : Hp) (a : Addr) (xs : List Int) : Prop :=
  (∃ o, H a = some (.frz o (.lst (xs.map V.int)))) ∨ ∃ (o : Obj) (its : Array Value) (n : Nat), K.lookup a = some o ∧ o.cls = .type "list" ∧ o.dict = none ∧ o.data = .seq its n ∧ its.size ≤ sizeLine ∧ Vals (xs.map V.int) its.toList

mutual
inductive Rp (K : PySem.W.Frag) (M : Addr → Prop) (H : Hp) : D → V → Prop
  | non : Rp K M H .non .non
  | bl (b : Bool) : Rp K M H (.bl b) (.bl b)
  | int (i : Int) : Rp K M H (.int i) (.int i)
  | str {x : Str} : StrG x → Rp K M H (.str x) (.str x)
  | tup {a : Addr} {vs : List V} {ds : List D} : ds.length ≤ sizeLine → SqT K H a vs → RpL K M H ds vs → Rp K M H (.tup ds) (.ref a)
  | lst {a : Addr} {vs : List V} {ds : List D} : ds.length ≤ sizeLine → ¬ M a → H a = some (.lst vs) → RpL K M H ds vs → Rp K M H (.lst ds) (.ref a)
  | dct {a : Addr} {ws : List (Key × V)} {kvs : List (Key × D)} : kvs.length ≤ sizeLine → ¬ M a → H a = some (.dK ws) → RpK K M H kvs ws → Rp K M H (.dct kvs) (.ref a)
  | scr {a : Addr} {xs : List Int} : xs.length ≤ sizeLine → SqS K H a xs → Rp K M H (.scr xs) (.ref a)
inductive RpL (K : PySem.W.Frag) (M : Addr → Prop) (H : Hp) : List D → List V → Prop
  | nil : RpL K M H [] []
  | cons {d : D} {ds : List D} {v : V} {vs : List V} : Rp K M H d v → RpL K M H ds vs → RpL K M H (d :: ds) (v :: vs)
inductive RpK (K : PySem.W.Frag) (M : Addr → Prop) (H : Hp) : List (Key × D) → List (Key × V) → Prop
  | nil : RpK K M H [] []
  | cons {k : Key} {d : D} {ds : List (Key × D)} {v : V} {vs : List (Key × V)} : Rp K M H d v → RpK K M H ds vs → RpK K M H ((k, d) :: ds) ((k, v) :: vs)
end

/-- what never changes -/
def Imm : HO → Prop
  | .tup _ => True
  | .frz _ _ => True
  | _ => False

/-- from one heap to a later one: what is tracked and not owned is as it was, and is not owned later -/
def Ext (M : Addr → Prop) (H : Hp) (M' : Addr → Prop) (H' : Hp) : Prop :=
  ∀ b o, H b = some o → (¬ M b ∨ Imm o) → H' b = some o ∧ (¬ M b → ¬ M' b)

theorem Ext.refl {M : Addr → Prop} {H : Hp} : Ext M H M H := fun _ _ e _ => ⟨e, fun n => n⟩
theorem Ext.trans {M M1 M2 : Addr → Prop} {H H1 H2 : Hp} (a : Ext M H M1 H1) (b : Ext M1 H1 M2 H2) : Ext M H M2 H2 := fun c o e h => by
  obtain ⟨e1, n1⟩ := a c o e h
  rcases h with h | h
  · obtain ⟨e2, n2⟩ := b c o e1 (.inl (n1 h))
    exact ⟨e2, fun n => n2 (n1 n)⟩
  · obtain ⟨e2, n2⟩ := b c o e1 (.inr h)
    exact ⟨e2, fun n => n2 (n1 n)⟩

theorem Ext.sqT {K : PySem.W.Frag} {M M' : Addr → Prop} {H H' : Hp} (x : Ext M H M' H') {a : Addr} {xs : List V} (h : SqT K H a xs) : SqT K H' a xs := by
  rcases h with (h | ⟨o, h⟩) | h
  · exact .inl (.inl (x _ _ h (.inr trivial)).1)
  · exact .inl (.inr ⟨o, (x _ _ h (.inr trivial)).1⟩)
  · exact .inr h
theorem Ext.sqS {K : PySem.W.Frag} {M M' : Addr → Prop} {H H' : Hp} (x : Ext M H M' H') {a : Addr} {xs : List Int} (h : SqS K H a xs) : SqS K H' a xs := by
  rcases h with ⟨o, h⟩ | h
  · exact .inl ⟨o, (x _ _ h (.inr trivial)).1⟩
  · exact .inr h
theorem SqS.sql {K : PySem.W.Frag} {H : Hp} {a : Addr} {xs : List Int} (h : SqS K H a xs) : SqL K H a (xs.map V.int) := by
  rcases h with ⟨o, h⟩ | h
  · exact .inl (.inr ⟨o, h⟩)
  · exact .inr h

section
variable {K : PySem.W.Frag} {M M' : Addr → Prop} {H H' : Hp}
mutual
theorem Rp.ext (x : Ext M H M' H') : ∀ {d : D} {v : V}, Rp K M H d v → Rp K M' H' d v
  | .non, _, h => by cases h; exact .non
  | .bl b, _, h => by cases h; exact .bl b
  | .int i, _, h => by cases h; exact .int i
  | .str z, _, h => by
    cases h with
    | str g => exact .str g
  | .tup ds, _, h => by
    cases h with
    | tup l h1 h2 => exact .tup l (x.sqT h1) (RpL.ext x h2)
  | .lst ds, _, h => by
    cases h with
    | lst l n h1 h2 => exact .lst l ((x _ _ h1 (.inl n)).2 n) (x _ _ h1 (.inl n)).1 (RpL.ext x h2)
  | .dct kvs, _, h => by
    cases h with
    | dct l n h1 h2 => exact .dct l ((x _ _ h1 (.inl n)).2 n) (x _ _ h1 (.inl n)).1 (RpK.ext x h2)
  | .exn _ _, _, h => by cases h
  | .scr xs, _, h => by
    cases h with
    | scr l h1 => exact .scr l (x.sqS h1)
theorem RpL.ext (x : Ext M H M' H') : ∀ {ds : List D} {vs : List V}, RpL K M H ds vs → RpL K M' H' ds vs
  | [], _, h => by cases h; exact .nil
  | d :: ds, _, h => by
    cases h with
    | cons h1 h2 => exact .cons (Rp.ext x h1) (RpL.ext x h2)
theorem RpK.ext (x : Ext M H M' H') : ∀ {ds : List (Key × D)} {vs : List (Key × V)}, RpK K M H ds vs → RpK K M' H' ds vs
  | [], _, h => by cases h; exact .nil
  | (k, d) :: ds, _, h => by
    cases h with
    | cons h1 h2 => exact .cons (Rp.ext x h1) (RpK.ext x h2)
end
/-- fewer owned -/
theorem Ext.sub (h : ∀ b, M' b → M b) : Ext M H M' H := fun b o e _ => ⟨e, fun n z => n (h b z)⟩
/-- a new object -/
theorem Ext.new {p : Addr} {o : HO} (hp : H p = none) : Ext M H M (upd H p o) := fun b u e _ => ⟨by rw [upd_ne (ne_of_none e hp)]; exact e, fun n => n⟩
/-- a new object that is owned -/
theorem Ext.newO {p : Addr} {o : HO} (hp : H p = none) : Ext M H (fun b => M b ∨ b = p) (upd H p o) := fun b u e _ =>
  ⟨by rw [upd_ne (ne_of_none e hp)]; exact e, fun n z => z.elim n fun q => ne_of_none e hp q⟩
/-- an owned object is written -/
theorem Ext.write {a : Addr} {o u : HO} (h : M a) (e : H a = some u) (i : ¬ Imm u) : Ext M H M (upd H a o) := fun b q eb hb => by
  have nb : b ≠ a := fun z => by
    subst z
    rw [e] at eb; cases eb
    exact hb.elim (fun n => n h) i
  exact ⟨by rw [upd_ne nb]; exact eb, fun n => n⟩

theorem RpL.length : ∀ {ds : List D} {vs : List V}, RpL K M H ds vs → ds.length = vs.length
  | [], _, h => by cases h; rfl
  | d :: ds, _, h => by
    cases h with
    | cons h1 h2 => simp [RpL.length h2]
theorem RpK.length : ∀ {ds : List (Key × D)} {vs : List (Key × V)}, RpK K M H ds vs → ds.length = vs.length
  | [], _, h => by cases h; rfl
  | d :: ds, _, h => by
    cases h with
    | cons h1 h2 => simp [RpK.length h2]
theorem RpL.get : ∀ {ds : List D} {vs : List V} {i : Nat} {d : D}, RpL K M H ds vs → ds[i]? = some d → ∃ v, vs[i]? = some v ∧ Rp K M H d v
  | [], _, i, _, h, e => by simp at e
  | x :: ds, _, 0, d, h, e => by
    cases h with
    | cons h1 h2 =>
      simp at e; subst e
      exact ⟨_, rfl, h1⟩
  | x :: ds, _, i + 1, d, h, e => by
    cases h with
    | cons h1 h2 =>
      obtain ⟨v, q, r⟩ := RpL.get (i := i) h2 (by simpa using e)
      exact ⟨v, by simpa using q, r⟩
theorem RpL.getV : ∀ {ds : List D} {vs : List V} {i : Nat} {v : V}, RpL K M H ds vs → vs[i]? = some v → ∃ d, ds[i]? = some d ∧ Rp K M H d v
  | [], _, i, _, h, e => by cases h; simp at e
  | x :: ds, _, 0, d, h, e => by
    cases h with
    | cons h1 h2 =>
      simp at e; subst e
      exact ⟨_, rfl, h1⟩
  | x :: ds, _, i + 1, d, h, e => by
    cases h with
    | cons h1 h2 =>
      obtain ⟨v, q, r⟩ := RpL.getV (i := i) h2 (by simpa using e)
      exact ⟨v, by simpa using q, r⟩
theorem RpL.append : ∀ {ds es : List D} {vs ws : List V}, RpL K M H ds vs → RpL K M H es ws → RpL K M H (ds ++ es) (vs ++ ws)
  | [], _, _, _, h, g => by cases h; exact g
  | d :: ds, _, _, _, h, g => by
    cases h with
    | cons h1 h2 => exact .cons h1 (RpL.append h2 g)
theorem RpL.take : ∀ {ds : List D} {vs : List V} (n : Nat), RpL K M H ds vs → RpL K M H (ds.take n) (vs.take n)
  | [], _, n, h => by cases h; simp; exact .nil
  | d :: ds, _, 0, h => by simp; exact .nil
  | d :: ds, _, n + 1, h => by
    cases h with
    | cons h1 h2 => exact .cons h1 (RpL.take n h2)
theorem RpL.drop : ∀ {ds : List D} {vs : List V} (n : Nat), RpL K M H ds vs → RpL K M H (ds.drop n) (vs.drop n)
  | [], _, n, h => by cases h; simp; exact .nil
  | d :: ds, _, 0, h => by simpa using h
  | d :: ds, _, n + 1, h => by
    cases h with
    | cons h1 h2 => exact RpL.drop n h2
theorem RpL.set {d : D} {v : V} (r : Rp K M H d v) : ∀ {ds : List D} {vs : List V} (i : Nat), RpL K M H ds vs → RpL K M H (ds.set i d) (vs.set i v)
  | [], _, i, h => by cases h; exact .nil
  | x :: ds, _, 0, h => by
    cases h with
    | cons h1 h2 => exact .cons r h2
  | x :: ds, _, i + 1, h => by
    cases h with
    | cons h1 h2 => exact .cons h1 (RpL.set r i h2)
theorem RpL.eraseIdx : ∀ {ds : List D} {vs : List V} (i : Nat), RpL K M H ds vs → RpL K M H (ds.eraseIdx i) (vs.eraseIdx i)
  | [], _, i, h => by cases h; exact .nil
  | x :: ds, _, 0, h => by
    cases h with
    | cons h1 h2 => exact h2
  | x :: ds, _, i + 1, h => by
    cases h with
    | cons h1 h2 => exact .cons h1 (RpL.eraseIdx i h2)
theorem RpL.reverse : ∀ {ds : List D} {vs : List V}, RpL K M H ds vs → RpL K M H ds.reverse vs.reverse
  | [], _, h => by cases h; exact .nil
  | x :: ds, _, h => by
    cases h with
    | cons h1 h2 =>
      simp only [List.reverse_cons]
      exact RpL.append (RpL.reverse h2) (.cons h1 .nil)
end

/-! ### environments -/
inductive Slot where
  /-- nothing is known -/
  | no
  /-- a value -/
  | v (d : D)
  /-- a mutable object of this def's own -/
  | o (d : D)
  /-- a mutable object that is a parameter -/
  | p (d : D)
  deriving Inhabited
abbrev Env := List Slot

/-- the owned object at a holds d -/
def Ow (K : PySem.W.Frag) (M : Addr → Prop) (H : Hp) : D → Addr → Prop
  | .lst ds, a => M a ∧ ds.length ≤ sizeLine ∧ ∃ vs, H a = some (.lst vs) ∧ RpL K M H ds vs
  | .dct kvs, a => M a ∧ kvs.length ≤ sizeLine ∧ ∃ ws, H a = some (.dK ws) ∧ RpK K M H kvs ws
  | _, _ => False

theorem Ow.mem {K : PySem.W.Frag} {M : Addr → Prop} {H : Hp} {d : D} {a : Addr} (h : Ow K M H d a) : M a := by
  cases d <;> first | exact h.1 | exact h.elim
theorem Ow.there {K : PySem.W.Frag} {M : Addr → Prop} {H : Hp} {d : D} {a : Addr} (h : Ow K M H d a) : ∃ o, H a = some o ∧ ¬ Imm o := by
  cases d with
  | lst ds => obtain ⟨_, _, vs, e, _⟩ := h; exact ⟨_, e, fun z => z⟩
  | dct ds => obtain ⟨_, _, vs, e, _⟩ := h; exact ⟨_, e, fun z => z⟩
  | _ => exact h.elim
/-- the object itself is as it was, what it holds is not owned -/
theorem Ow.ext {K : PySem.W.Frag} {M M' : Addr → Prop} {H H' : Hp} {d : D} {a : Addr} (x : Ext M H M' H') (hm : M' a) (he : H' a = H a) (h : Ow K M H d a) : Ow K M' H' d a := by
  cases d with
  | lst ds =>
    obtain ⟨_, l, vs, e, r⟩ := h
    exact ⟨hm, l, vs, by rw [he]; exact e, RpL.ext x r⟩
  | dct ds =>
    obtain ⟨_, l, vs, e, r⟩ := h
    exact ⟨hm, l, vs, by rw [he]; exact e, RpK.ext x r⟩
  | _ => exact h.elim

/-- where a body begins: the owned ones, the heap, the parameters that are owned -/
structure Base where
  M : Addr → Prop
  H : Hp
  pa : Nat → Option Addr
  /-- what is being made meanwhile -/
  pr : List (Addr × HO) := []
  mt : ∀ b, M b → H b ≠ none

def SlotOk (K : PySem.W.Frag) (B : Base) (M : Addr → Prop) (H : Hp) (i : Nat) : Slot → Option V → Prop
  | .no, _ => True
  | .v d, x => ∃ v, x = some v ∧ Rp K M H d v
  | .o d, x => ∃ a, x = some (.ref a) ∧ Ow K M H d a ∧ B.H a = none
  | .p d, x => ∃ a, x = some (.ref a) ∧ Ow K M H d a ∧ B.pa i = some a

def isOwn : Slot → Bool
  | .o _ => true
  | .p _ => true
  | _ => false

/-- no slot owns what stands at a -/
def Anon (ρ : Env) (σ : St) (a : Addr) : Prop := ∀ (i : Nat) (s : Slot), ρ[i]? = some s → isOwn s = true → σ[i]? ≠ some (some (V.ref a))
structure Rep (K : PySem.W.Frag) (B : Base) (M : Addr → Prop) (H : Hp) (ρ : Env) (σ : St) : Prop where
  keep : ∀ b o, B.H b = some o → (∀ i, B.pa i ≠ some b) → H b = some o
  old : ∀ b, B.H b ≠ none → H b ≠ none
  sub : ∀ b, B.M b → M b
  new : ∀ b, M b → B.M b ∨ B.H b = none
  trk : ∀ b, M b → H b ≠ none
  len : ρ.length = σ.length
  slot : ∀ (i : Nat) (s : Slot), ρ[i]? = some s → SlotOk K B M H i s (σ[i]?.join)
  apart : ∀ (i j : Nat) (s t : Slot) (a : Addr), i ≠ j → ρ[i]? = some s → ρ[j]? = some t → isOwn s = true → isOwn t = true → σ[i]? = some (some (V.ref a)) → σ[j]? = some (some (V.ref a)) → False
  pr : ∀ p ∈ B.pr, H p.1 = some p.2 ∧ M p.1 ∧ Anon ρ σ p.1

theorem SlotOk.ext {K : PySem.W.Frag} {B : Base} {M M' : Addr → Prop} {H H' : Hp} {i : Nat} {s : Slot} {x : Option V} (e : Ext M H M' H')
    (ho : ∀ a, isOwn s = true → x = some (.ref a) → M a → M' a ∧ H' a = H a) (h : SlotOk K B M H i s x) : SlotOk K B M' H' i s x := by
  cases s with
  | no => trivial
  | v d => obtain ⟨v, e1, r⟩ := h; exact ⟨v, e1, r.ext e⟩
  | o d =>
    obtain ⟨a, e1, r, n⟩ := h
    obtain ⟨m, q⟩ := ho a rfl e1 r.mem
    exact ⟨a, e1, r.ext e m q, n⟩
  | p d =>
    obtain ⟨a, e1, r, n⟩ := h
    obtain ⟨m, q⟩ := ho a rfl e1 r.mem
    exact ⟨a, e1, r.ext e m q, n⟩
theorem SlotOk.own {K : PySem.W.Frag} {B : Base} {M : Addr → Prop} {H : Hp} {i : Nat} {s : Slot} {x : Option V} (h : SlotOk K B M H i s x) (hs : isOwn s = true) :
    ∃ a d, x = some (.ref a) ∧ Ow K M H d a ∧ ((s = .o d ∧ B.H a = none) ∨ (s = .p d ∧ B.pa i = some a)) := by
  cases s with
  | no => cases hs
  | v d => cases hs
  | o d => obtain ⟨a, e1, r, n⟩ := h; exact ⟨a, d, e1, r, .inl ⟨rfl, n⟩⟩
  | p d => obtain ⟨a, e1, r, n⟩ := h; exact ⟨a, d, e1, r, .inr ⟨rfl, n⟩⟩
theorem join_of {σ : St} {i : Nat} {v : V} (h : σ[i]?.join = some v) : σ[i]? = some (some v) := by
  cases e : σ[i]? with
  | none => rw [e] at h; cases h
  | some x => rw [e] at h; cases x with
    | none => cases h
    | some y => cases h; rfl
theorem of_join {σ : St} {i : Nat} {v : V} (h : σ[i]? = some (some v)) : σ[i]?.join = some v := by rw [h]; rfl

section
variable {K : PySem.W.Frag} {B : Base} {M M' : Addr → Prop} {H H' : Hp} {ρ ρ' : Env} {σ σ' : St}
/-- the names stay, the heap changes -/
theorem Rep.change (r : Rep K B M H ρ σ) (hk : ∀ b o, B.H b = some o → (∀ i, B.pa i ≠ some b) → H b = some o → H' b = some o) (ho : ∀ b, H b ≠ none → H' b ≠ none)
    (hm : ∀ b, M b → M' b) (hn : ∀ b, M' b → M b ∨ H b = none) (ht : ∀ b, M' b → H' b ≠ none) (hl : ρ'.length = ρ.length) (hp : ∀ p ∈ B.pr, H p.1 = some p.2 → H' p.1 = some p.2)
    (hs : ∀ (i : Nat) (s' : Slot), ρ'[i]? = some s' → SlotOk K B M' H' i s' (σ[i]?.join) ∧ ∃ s, ρ[i]? = some s ∧ isOwn s' = isOwn s) : Rep K B M' H' ρ' σ where
  keep := fun b o h1 h2 => hk b o h1 h2 (r.keep b o h1 h2)
  old := fun b h => ho b (r.old b h)
  sub := fun b h => hm b (r.sub b h)
  new := fun b h => (hn b h).elim (r.new b) fun n => by
    cases q : B.H b with
    | none => exact .inr rfl
    | some o => exact absurd n (r.old b (by rw [q]; simp))
  trk := ht
  len := hl.trans r.len
  slot := fun i s h => (hs i s h).1
  apart := fun i j s t a ne h1 h2 o1 o2 => by
    obtain ⟨_, s0, e1, q1⟩ := hs i s h1
    obtain ⟨_, t0, e2, q2⟩ := hs j t h2
    exact r.apart i j s0 t0 a ne e1 e2 (q1 ▸ o1) (q2 ▸ o2)
  pr := fun p hm2 => by
    obtain ⟨h1, h2, h3⟩ := r.pr p hm2
    refine ⟨hp p hm2 h1, hm _ h2, fun i s hi ho => ?_⟩
    obtain ⟨_, s0, e1, q1⟩ := hs i s hi
    exact h3 i s0 e1 (q1 ▸ ho)
/-- the heap has grown, nothing that was owned is changed -/
theorem Rep.grow (r : Rep K B M H ρ σ) (e : Ext M H M' H') (hs : ∀ b o, H b = some o → H' b = some o) (hm : ∀ b, M b → M' b) (hn : ∀ b, M' b → M b ∨ H b = none) (ht : ∀ b, M' b → H' b ≠ none) : Rep K B M' H' ρ σ :=
  r.change (fun b o _ _ q => hs b o q) (fun b h => by
    cases q : H b with
    | none => exact absurd q h
    | some o => rw [hs b o q]; simp) hm hn ht rfl (fun p _ q => hs _ _ q) fun i s h => ⟨(r.slot i s h).ext e fun a _ _ m => ⟨hm a m, by
      cases q : H a with
      | none => exact absurd q (r.trk a m)
      | some o => exact hs a o q⟩, s, h, rfl⟩
/-- a new object, not owned -/
theorem Rep.alloc (r : Rep K B M H ρ σ) {p : Addr} {o : HO} (hp : H p = none) : Rep K B M (upd H p o) ρ σ :=
  r.grow (Ext.new hp) (fun b u e => by rw [upd_ne (ne_of_none e hp)]; exact e) (fun _ h => h) (fun _ h => .inl h) fun b h z => by
    have n := r.trk b h
    by_cases e : b = p
    · rw [e] at n; exact n hp
    · rw [upd_ne e] at z; exact n z
/-- a new object, owned -/
theorem Rep.allocO (r : Rep K B M H ρ σ) {p : Addr} {o : HO} (hp : H p = none) : Rep K B (fun b => M b ∨ b = p) (upd H p o) ρ σ :=
  r.grow (Ext.newO hp) (fun b u e => by rw [upd_ne (ne_of_none e hp)]; exact e) (fun _ h => .inl h) (fun b h => h.imp id fun e => by rw [e]; exact hp) fun b h z => by
    by_cases e : b = p
    · rw [e, upd_same] at z; cases z
    · rw [upd_ne e] at z
      exact h.elim (fun q => r.trk b q z) e
theorem Rep.own_ne (r : Rep K B M H ρ σ) {i : Nat} {s : Slot} {a p : Addr} (_h : ρ[i]? = some s) (_o : isOwn s = true) (hv : σ[i]? = some (some (V.ref a))) (hp : H p = none) : a ≠ p := fun e => by
  obtain ⟨a', d, e1, w, _⟩ := (r.slot i s _h).own _o
  rw [of_join hv] at e1
  cases e1
  obtain ⟨o, q, _⟩ := w.there
  rw [e, hp] at q
  cases q
/-- the same kind of slot, another content -/
def reSlot (s : Slot) (d' : D) : Slot := match s with
  | .p _ => .p d'
  | _ => .o d'
/-- the owned object of slot i is written -/
theorem Rep.mutate (r : Rep K B M H ρ σ) {i : Nat} {s s' : Slot} {a : Addr} {u : HO} {d' : D} (hi : ρ[i]? = some s) (ho : isOwn s = true) (hv : σ[i]? = some (some (V.ref a)))
    (hw : Ow K M (upd H a u) d' a) (hs : s' = reSlot s d') : Rep K B M (upd H a u) (ρ.set i s') σ := by
  obtain ⟨a', d, e1, w, k⟩ := (r.slot i s hi).own ho
  rw [of_join hv] at e1
  cases e1
  obtain ⟨o0, q0, im⟩ := w.there
  have hx : Ext M H M (upd H a u) := Ext.write w.mem q0 im
  refine r.change (fun b o h1 h2 h3 => ?_) (fun b h => ?_) (fun _ h => h) (fun _ h => .inl h) (fun b h => ?_) (by simp) (fun p hp q => ?_) fun j t hj => ?_
  · have nb : b ≠ a := fun e => by
      subst e
      rcases k with ⟨_, k⟩ | ⟨_, k⟩
      · rw [k] at h1; cases h1
      · exact h2 i k
    rw [upd_ne nb]; exact h3
  · by_cases e : b = a
    · rw [e, upd_same]; simp
    · rw [upd_ne e]; exact h
  · by_cases e : b = a
    · rw [e, upd_same]; simp
    · rw [upd_ne e]; exact r.trk b h
  · rw [upd_ne fun e => (r.pr p hp).2.2 i s hi ho (by rw [e]; exact hv)]
    exact q
  · by_cases e : j = i
    · subst e
      have hlt : j < ρ.length := (List.getElem?_eq_some_iff.mp hi).1
      rw [List.getElem?_set_self hlt] at hj
      cases hj
      refine ⟨?_, s, hi, ?_⟩
      · rw [of_join hv]
        rcases k with ⟨rfl, k⟩ | ⟨rfl, k⟩
        · subst hs; exact ⟨a, rfl, hw, k⟩
        · subst hs; exact ⟨a, rfl, hw, k⟩
      · rcases k with ⟨rfl, k⟩ | ⟨rfl, k⟩ <;> (subst hs; rfl)
    · rw [List.getElem?_set_ne (Ne.symm e)] at hj
      refine ⟨(r.slot j t hj).ext hx fun b ot hb mb => ⟨mb, ?_⟩, t, hj, rfl⟩
      have nb : b ≠ a := fun q => by
        subst q
        exact r.apart i j s t b (Ne.symm e) hi hj ho ot hv (join_of hb)
      exact upd_ne nb
/-- a name is stored -/
theorem Rep.setV (r : Rep K B M H ρ σ) (i : Nat) {d : D} {v : V} (h : Rp K M H d v) : Rep K B M H (ρ.set i (.v d)) (σ.set i (some v)) where
  keep := r.keep
  old := r.old
  sub := r.sub
  new := r.new
  trk := r.trk
  len := by simp [r.len]
  slot := fun j s hj => by
    by_cases e : j = i
    · subst e
      by_cases hlt : j < ρ.length
      · rw [List.getElem?_set_self hlt] at hj
        cases hj
        rw [List.getElem?_set_self (r.len ▸ hlt)]
        exact ⟨v, rfl, h⟩
      · rw [List.getElem?_eq_none (by simpa using hlt)] at hj; cases hj
    · rw [List.getElem?_set_ne (Ne.symm e)] at hj ⊢
      exact r.slot j s hj
  apart := fun j k s t a ne h1 h2 o1 o2 v1 v2 => by
    by_cases e : j = i
    · subst e
      by_cases hlt : j < ρ.length
      · rw [List.getElem?_set_self hlt] at h1; cases h1; cases o1
      · rw [List.getElem?_eq_none (by simpa using hlt)] at h1; cases h1
    · by_cases e' : k = i
      · subst e'
        by_cases hlt : k < ρ.length
        · rw [List.getElem?_set_self hlt] at h2; cases h2; cases o2
        · rw [List.getElem?_eq_none (by simpa using hlt)] at h2; cases h2
      · rw [List.getElem?_set_ne (Ne.symm e)] at h1 v1
        rw [List.getElem?_set_ne (Ne.symm e')] at h2 v2
        exact r.apart j k s t a ne h1 h2 o1 o2 v1 v2
  pr := fun p hp => by
    obtain ⟨h1, h2, h3⟩ := r.pr p hp
    refine ⟨h1, h2, fun j s hj ho => ?_⟩
    by_cases e : j = i
    · subst e
      by_cases hlt : j < ρ.length
      · rw [List.getElem?_set_self hlt] at hj; cases hj; cases ho
      · rw [List.getElem?_eq_none (by simpa using hlt)] at hj; cases hj
    · rw [List.getElem?_set_ne (Ne.symm e)] at hj ⊢
      exact h3 j s hj ho
theorem Rep.setO (r : Rep K B M H ρ σ) (i : Nat) {d : D} {a : Addr} (h : Ow K M H d a) (hb : B.H a = none) (an : Anon ρ σ a) (np : ∀ p ∈ B.pr, p.1 ≠ a) : Rep K B M H (ρ.set i (.o d)) (σ.set i (some (V.ref a))) where
  keep := r.keep
  old := r.old
  sub := r.sub
  new := r.new
  trk := r.trk
  len := by simp [r.len]
  slot := fun j s hj => by
    by_cases e : j = i
    · subst e
      by_cases hlt : j < ρ.length
      · rw [List.getElem?_set_self hlt] at hj
        cases hj
        rw [List.getElem?_set_self (r.len ▸ hlt)]
        exact ⟨a, rfl, h, hb⟩
      · rw [List.getElem?_eq_none (by simpa using hlt)] at hj; cases hj
    · rw [List.getElem?_set_ne (Ne.symm e)] at hj ⊢
      exact r.slot j s hj
  apart := fun j k s t b ne h1 h2 o1 o2 v1 v2 => by
    by_cases e : j = i
    · subst e
      by_cases hlt : j < ρ.length
      · rw [List.getElem?_set_self (r.len ▸ hlt)] at v1
        cases v1
        rw [List.getElem?_set_ne ne] at h2 v2
        exact an k t h2 o2 v2
      · rw [List.getElem?_eq_none (by simpa using hlt)] at h1; cases h1
    · by_cases e' : k = i
      · subst e'
        by_cases hlt : k < ρ.length
        · rw [List.getElem?_set_self (r.len ▸ hlt)] at v2
          cases v2
          rw [List.getElem?_set_ne (Ne.symm e)] at h1 v1
          exact an j s h1 o1 v1
        · rw [List.getElem?_eq_none (by simpa using hlt)] at h2; cases h2
      · rw [List.getElem?_set_ne (Ne.symm e)] at h1 v1
        rw [List.getElem?_set_ne (Ne.symm e')] at h2 v2
        exact r.apart j k s t b ne h1 h2 o1 o2 v1 v2
  pr := fun p hp => by
    obtain ⟨h1, h2, h3⟩ := r.pr p hp
    refine ⟨h1, h2, fun j s hj ho hv => ?_⟩
    by_cases e : j = i
    · subst e
      by_cases hlt : j < ρ.length
      · rw [List.getElem?_set_self (r.len ▸ hlt)] at hv
        cases hv
        exact np p hp rfl
      · rw [List.getElem?_eq_none (by simpa using hlt)] at hj; cases hj
    · rw [List.getElem?_set_ne (Ne.symm e)] at hj hv
      exact h3 j s hj ho hv
/-- forgetting a slot -/
theorem Rep.setNo (r : Rep K B M H ρ σ) (i : Nat) (x : Option V) : Rep K B M H (ρ.set i .no) (σ.set i x) where
  keep := r.keep
  old := r.old
  sub := r.sub
  new := r.new
  trk := r.trk
  len := by simp [r.len]
  slot := fun j s hj => by
    by_cases e : j = i
    · subst e
      by_cases hlt : j < ρ.length
      · rw [List.getElem?_set_self hlt] at hj
        cases hj
        trivial
      · rw [List.getElem?_eq_none (by simpa using hlt)] at hj; cases hj
    · rw [List.getElem?_set_ne (Ne.symm e)] at hj ⊢
      exact r.slot j s hj
  apart := fun j k s t a ne h1 h2 o1 o2 v1 v2 => by
    by_cases e : j = i
    · subst e
      by_cases hlt : j < ρ.length
      · rw [List.getElem?_set_self hlt] at h1; cases h1; cases o1
      · rw [List.getElem?_eq_none (by simpa using hlt)] at h1; cases h1
    · by_cases e' : k = i
      · subst e'
        by_cases hlt : k < ρ.length
        · rw [List.getElem?_set_self hlt] at h2; cases h2; cases o2
        · rw [List.getElem?_eq_none (by simpa using hlt)] at h2; cases h2
      · rw [List.getElem?_set_ne (Ne.symm e)] at h1 v1
        rw [List.getElem?_set_ne (Ne.symm e')] at h2 v2
        exact r.apart j k s t a ne h1 h2 o1 o2 v1 v2
  pr := fun p hp => by
    obtain ⟨h1, h2, h3⟩ := r.pr p hp
    refine ⟨h1, h2, fun j s hj ho => ?_⟩
    by_cases e : j = i
    · subst e
      by_cases hlt : j < ρ.length
      · rw [List.getElem?_set_self hlt] at hj; cases hj; cases ho
      · rw [List.getElem?_eq_none (by simpa using hlt)] at hj; cases hj
    · rw [List.getElem?_set_ne (Ne.symm e)] at hj ⊢
      exact h3 j s hj ho
/-- what is owned by no slot and was made here is owned no more -/
theorem Rep.drop (r : Rep K B M H ρ σ) {a : Addr} (hb : B.H a = none) (an : Anon ρ σ a) (np : ∀ p ∈ B.pr, p.1 ≠ a) : Rep K B (fun b => M b ∧ b ≠ a) H ρ σ where
  keep := r.keep
  old := r.old
  sub := fun b h => ⟨r.sub b h, fun e => by subst e; exact B.mt b h hb⟩
  new := fun b h => r.new b h.1
  trk := fun b h => r.trk b h.1
  len := r.len
  slot := fun i s h => (r.slot i s h).ext (Ext.sub fun _ z => z.1) fun b o e m => ⟨⟨m, fun z => by subst z; exact an i s h o (join_of e)⟩, rfl⟩
  apart := r.apart
  pr := fun p hp => ⟨(r.pr p hp).1, ⟨(r.pr p hp).2.1, np p hp⟩, (r.pr p hp).2.2⟩
/-- slot i is owned no more: its object is a value from now on -/
theorem Rep.frz (r : Rep K B M H ρ σ) {i : Nat} {d : D} (hi : ρ[i]? = some (.o d)) : ∃ M', (∀ b, M' b → M b) ∧ Rep K B M' H (ρ.set i (.v d)) σ := by
  obtain ⟨a, e1, w, nb⟩ := r.slot i _ hi
  have hv := join_of e1
  have an : Anon (ρ.set i .no) (σ.set i (some (V.ref a))) a := fun j s hj ho hv' => by
    by_cases e : j = i
    · subst e
      rw [List.getElem?_set_self (List.getElem?_eq_some_iff.mp hi).1] at hj
      cases hj; cases ho
    · rw [List.getElem?_set_ne (Ne.symm e)] at hj hv'
      exact r.apart j i s _ a e hj hi ho rfl hv' hv
  have r2 := (r.setNo i (some (V.ref a))).drop nb an fun p hp z => (r.pr p hp).2.2 i _ hi rfl (by rw [z]; exact hv)
  have es : σ.set i (some (V.ref a)) = σ := by
    apply List.ext_getElem?
    intro j
    by_cases e : j = i
    · subst e
      rw [List.getElem?_set_self (List.getElem?_eq_some_iff.mp hv).1, hv]
    · rw [List.getElem?_set_ne (Ne.symm e)]
  have rp : Rp K (fun b => M b ∧ b ≠ a) H d (.ref a) := by
    have x : Ext M H (fun b => M b ∧ b ≠ a) H := Ext.sub fun _ z => z.1
    cases d with
    | lst ds => obtain ⟨_, l, vs, e, q⟩ := w; exact .lst l (fun z => z.2 rfl) e (RpL.ext x q)
    | dct ds => obtain ⟨_, l, vs, e, q⟩ := w; exact .dct l (fun z => z.2 rfl) e (RpK.ext x q)
    | _ => exact w.elim
  have r3 := r2.setV i rp
  rw [List.set_set, List.set_set, es] at r3
  exact ⟨_, fun b z => z.1, r3⟩
end
end NV

set_option Elab.async false
set_option linter.all false
set_option maxRecDepth 100000
set_option maxHeartbeats 4000000
/-! Core2: what a piece of syntax does, as a plain function of the environment. -/
namespace NV
open PySem PySem.Spec PyProof.Rows L2

structure Exn where
  cls : Str
  fs : List D := []

inductive Res (α : Type) where
  | ok (a : α) (ρ : Env)
  | exc (x : Exn) (ρ : Env)
  /-- nothing is told -/
  | bad
def Res.bind {α β : Type} : Res α → (α → Env → Res β) → Res β
  | .ok a ρ, f => f a ρ
  | .exc x ρ, _ => .exc x ρ
  | .bad, _ => .bad
theorem bind_ok {α β : Type} (a : α) (ρ : Env) (f : α → Env → Res β) : (Res.ok a ρ).bind f = f a ρ := rfl
theorem bind_exc {α β : Type} (x : Exn) (ρ : Env) (f : α → Env → Res β) : (Res.exc x ρ).bind f = .exc x ρ := rfl
theorem bind_bad {α β : Type} (f : α → Env → Res β) : (Res.bad).bind f = .bad := rfl
def ofO {α : Type} (o : Option α) (ρ : Env) : Res α := match o with
  | some a => .ok a ρ
  | none => .bad
theorem ofO_some {α : Type} (a : α) (ρ : Env) : ofO (some a) ρ = .ok a ρ := rfl
theorem ofO_none {α : Type} (ρ : Env) : ofO (none : Option α) ρ = .bad := rfl

/-- an operand: a value, or the owned object of a slot, read late -/
inductive RV where
  | val (d : D)
  | own (i : Nat)
def RV.get (ρ : Env) : RV → Option D
  | .val x => some x
  | .own i => match ρ[i]? with
    | some (.o d) => some d
    | some (.p d) => some d
    | _ => none
theorem get_d (ρ : Env) (d : D) : (RV.val d).get ρ = some d := rfl

abbrev EM := Env → Res D
abbrev RM := Env → Res RV
abbrev TM := Env → Res Bool
abbrev AM := Env → Res (List RV)

def ExR (K : PySem.W.Frag) (mg : Str → Option Value) (M : Addr → Prop) (H : Hp) (x : Exn) (c : Value) (dx : Option Addr) : Prop :=
  ∃ C, mg x.cls = some (Value.ref C) ∧ c = .ref C ∧ match x.fs with
    | [] => dx = none
    | [d] => ∃ a v, dx = some a ∧ H a = some (.xd [("row", v)]) ∧ Rp K M H d v
    | _ => False

section
variable {α β γ δ : Type}
/-- what must hold behind a result -/
def Post (X : Cx) (B : Base) (W : WX) (R : (Addr → Prop) → Hp → Env → α → β → Prop) (M : Addr → Prop) (H : Hp) (σ : St) (r : Res α) (Q : β → Hp → Prop) : Prop := match r with
  | .ok a ρ' => ∀ (M' : Addr → Prop) (H' : Hp) (b : β), Ext M H M' H' → Rep X.K B M' H' ρ' σ → R M' H' ρ' a b → Q b H'
  | .exc x ρ' => ∀ (M' : Addr → Prop) (H' : Hp) (c : Value) (dx : Option Addr), Ext M H M' H' → Rep X.K B M' H' ρ' σ → ExR X.K X.mg M' H' x c dx → W c dx σ H'
  | .bad => False
variable {X : Cx} {B : Base} {W : WX} {M M' : Addr → Prop} {H H' : Hp} {σ : St} {R : (Addr → Prop) → Hp → Env → α → β → Prop} {R2 : (Addr → Prop) → Hp → Env → γ → δ → Prop}
theorem Post.shift {r : Res α} {Q : β → Hp → Prop} (e : Ext M H M' H') (h : Post X B W R M H σ r Q) : Post X B W R M' H' σ r Q := by
  cases r with
  | ok a ρ => exact fun M2 H2 b e2 r2 q => h M2 H2 b (e.trans e2) r2 q
  | exc x ρ => exact fun M2 H2 c dx e2 r2 q => h M2 H2 c dx (e.trans e2) r2 q
  | bad => exact h
/-- in a row -/
theorem Post.seq {r : Res α} {f : α → Env → Res γ} {Q : δ → Hp → Prop} {Q1 : β → Hp → Prop} (h : Post X B W R2 M H σ (r.bind f) Q)
    (k : ∀ a ρ' M' H' b, Ext M H M' H' → Rep X.K B M' H' ρ' σ → R M' H' ρ' a b → Post X B W R2 M' H' σ (f a ρ') Q → Q1 b H') : Post X B W R M H σ r Q1 := by
  cases r with
  | ok a ρ => exact fun M2 H2 b e2 r2 q => k a ρ M2 H2 b e2 r2 q (Post.shift e2 h)
  | exc x ρ => exact h
  | bad => exact h
theorem Post.imp {R' : (Addr → Prop) → Hp → Env → α → β → Prop} {r : Res α} {Q Q' : β → Hp → Prop} (h : Post X B W R M H σ r Q)
    (k : ∀ a ρ' M' H' b, r = .ok a ρ' → Ext M H M' H' → Rep X.K B M' H' ρ' σ → R' M' H' ρ' a b → (∀ (M2 : Addr → Prop) (H2 : Hp) (b : β), Ext M H M2 H2 → Rep X.K B M2 H2 ρ' σ → R M2 H2 ρ' a b → Q b H2) → Q' b H') : Post X B W R' M H σ r Q' := by
  cases r with
  | ok a ρ => exact fun M2 H2 b e2 r2 q => k a ρ M2 H2 b rfl e2 r2 q h
  | exc x ρ => exact h
  | bad => exact h
end

abbrev RelE (K : PySem.W.Frag) : (Addr → Prop) → Hp → Env → D → V → Prop := fun M H _ d v => Rp K M H d v
def RelR (K : PySem.W.Frag) (σ : St) : (Addr → Prop) → Hp → Env → RV → V → Prop := fun M H _ r v => match r with
  | .val d => Rp K M H d v
  | .own i => σ[i]? = some (some v)
abbrev RelF (K : PySem.W.Frag) (B : Base) (σ : St) : (Addr → Prop) → Hp → Env → D → V → Prop := fun M H ρ d v => ∃ a, v = .ref a ∧ Ow K M H d a ∧ B.H a = none ∧ Anon ρ σ a ∧ ∀ p ∈ B.pr, p.1 ≠ a
abbrev RelT : (Addr → Prop) → Hp → Env → Bool → Bool → Prop := fun _ _ _ a b => a = b
def RelA (K : PySem.W.Frag) (σ : St) : (Addr → Prop) → Hp → Env → List RV → List V → Prop := fun M H ρ rs vs => Paired (fun r v => RelR K σ M H ρ r v) rs vs

/-- a reading is served by a function -/
def Sat {α β : Type} (X : Cx) (W : WX) (R : Base → St → (Addr → Prop) → Hp → Env → α → β → Prop) (t : St → Hp → (β → Hp → Prop) → Prop) (m : Env → Res α) : Prop :=
  ∀ (B : Base) (M : Addr → Prop) (H : Hp) (ρ : Env) (σ : St) (Q : β → Hp → Prop), Rep X.K B M H ρ σ → Post X B W (R B σ) M H σ (m ρ) Q → t σ H Q
def DE (X : Cx) (W : WX) (e : Expr) (m : EM) : Prop := ∃ t, PE X e t ∧ Sat X W (fun _ _ => RelE X.K) t m
def DR (X : Cx) (W : WX) (e : Expr) (m : RM) : Prop := ∃ t, PE X e t ∧ Sat X W (fun _ σ => RelR X.K σ) t m
def DF (X : Cx) (W : WX) (e : Expr) (m : EM) : Prop := ∃ t, PE X e t ∧ Sat X W (fun B σ => RelF X.K B σ) t m
def DT (X : Cx) (W : WX) (e : Expr) (m : TM) : Prop := ∃ t, PT X e t ∧ Sat X W (fun _ _ => RelT) t m
def DW (X : Cx) (W : WX) (e : Expr) (m : TM) : Prop := ∃ t, PW X e t ∧ Sat X W (fun _ _ => RelT) t m
def DA (X : Cx) (W : WX) (es : List Expr) (m : AM) : Prop := ∃ t, PA X es t ∧ Sat X W (fun _ σ => RelA X.K σ) t m

/-! ### coercions -/
theorem Ow.rp {K : PySem.W.Frag} {M : Addr → Prop} {H : Hp} {d : D} {a : Addr} (w : Ow K M H d a) : Rp K (fun b => M b ∧ b ≠ a) H d (.ref a) := by
  have x : Ext M H (fun b => M b ∧ b ≠ a) H := Ext.sub fun _ z => z.1
  cases d with
  | lst ds => obtain ⟨_, l, vs, e, q⟩ := w; exact .lst l (fun z => z.2 rfl) e (RpL.ext x q)
  | dct ds => obtain ⟨_, l, vs, e, q⟩ := w; exact .dct l (fun z => z.2 rfl) e (RpK.ext x q)
  | _ => exact w.elim

section
variable {X : Cx} {W : WX} {e : Expr} {es : List Expr}
/-- what is new is a value -/
theorem de_f {m : EM} (h : DF X W e m) : DE X W e m := by
  obtain ⟨t, ht, hs⟩ := h
  refine ⟨t, ht, fun B M H ρ σ Q r h => hs B M H ρ σ Q r (h.imp fun a ρ' M' H' b er x r' ⟨p, eb, w, hb, an, np⟩ k => ?_)⟩
  subst eb
  exact k _ H' _ (x.trans (Ext.sub fun _ z => z.1)) (r'.drop hb an np) w.rp
def rOf (m : EM) : RM := fun ρ => (m ρ).bind fun d ρ' => .ok (.val d) ρ'
theorem dr_e {m : EM} (h : DE X W e m) : DR X W e (rOf m) := by
  obtain ⟨t, ht, hs⟩ := h
  refine ⟨t, ht, fun B M H ρ σ Q r h => hs B M H ρ σ Q r (Post.seq h fun a ρ' M' H' b x r' q k => ?_)⟩
  exact k M' H' b Ext.refl r' q
theorem dr_f {m : EM} (h : DF X W e m) : DR X W e (rOf m) := dr_e (de_f h)
theorem dt_w {m : TM} (h : DW X W e m) : DT X W e m := by
  obtain ⟨t, ht, hs⟩ := h
  exact ⟨t, ht.pt, hs⟩

/-! ### names, constants -/
def rVar (i : Nat) : RM := fun ρ => match ρ[i]? with
  | some (.v d) => .ok (.val d) ρ
  | some (.o _) => .ok (.own i) ρ
  | some (.p _) => .ok (.own i) ρ
  | _ => .bad
def eVar (i : Nat) : EM := fun ρ => match ρ[i]? with
  | some (.v d) => .ok d ρ
  | _ => .bad
theorem dr_var {i : Nat} {x : Str} {pos : Pos} (h : PE X (.Name x pos) (tVar i)) : DR X W (.Name x pos) (rVar i) := by
  refine ⟨_, h, fun B M H ρ σ Q r h => ?_⟩
  unfold rVar at h
  cases e : ρ[i]? with
  | none => rw [e] at h; exact h.elim
  | some s =>
    rw [e] at h
    have q := r.slot i s e
    cases s with
    | no => exact h.elim
    | v d =>
      obtain ⟨v, e1, rp⟩ := q
      exact ⟨v, join_of e1, h M H v Ext.refl r rp⟩
    | o d =>
      obtain ⟨a, e1, _⟩ := q
      exact ⟨_, join_of e1, h M H _ Ext.refl r (join_of e1)⟩
    | p d =>
      obtain ⟨a, e1, _⟩ := q
      exact ⟨_, join_of e1, h M H _ Ext.refl r (join_of e1)⟩
theorem de_var {i : Nat} {x : Str} {pos : Pos} (h : PE X (.Name x pos) (tVar i)) : DE X W (.Name x pos) (eVar i) := by
  refine ⟨_, h, fun B M H ρ σ Q r h => ?_⟩
  unfold eVar at h
  cases e : ρ[i]? with
  | none => rw [e] at h; exact h.elim
  | some s =>
    rw [e] at h
    have q := r.slot i s e
    cases s with
    | v d =>
      obtain ⟨v, e1, rp⟩ := q
      exact ⟨v, join_of e1, h M H v Ext.refl r rp⟩
    | _ => exact h.elim
def eC (d : D) : EM := fun ρ => .ok d ρ
theorem de_c {d : D} {v : V} (h : PE X e (tC v)) (r : ∀ M H, Rp X.K M H d v) : DE X W e (eC d) :=
  ⟨_, h, fun B M H ρ σ Q rp h => h M H v Ext.refl rp (r M H)⟩
theorem de_int {i j pos} : DE X W (.Constant (.int i) j pos) (eC (.int i)) := de_c pe_int fun _ _ => .int i
theorem de_bl {i j pos} : DE X W (.Constant (.bool i) j pos) (eC (.bl i)) := de_c pe_bl fun _ _ => .bl i
theorem de_non {j pos} : DE X W (.Constant .none j pos) (eC .non) := de_c pe_non fun _ _ => .non
theorem de_str {x j pos} (g : decide (x.length ≤ sizeLine) && PySem.PyData.strOk x = true := by decide +kernel) : DE X W (.Constant (.str x) j pos) (eC (.str x)) := de_c pe_str fun _ _ => .str (by
  rw [Bool.and_eq_true] at g
  exact ⟨of_decide_eq_true g.1, by simpa using g.2⟩)

/-! ### what an operand reads -/
def Rq (K : PySem.W.Frag) (M : Addr → Prop) (H : Hp) (d : D) (v : V) : Prop := match d with
  | .lst ds => ds.length ≤ sizeLine ∧ ∃ a vs, v = .ref a ∧ H a = some (.lst vs) ∧ RpL K M H ds vs
  | .dct kvs => kvs.length ≤ sizeLine ∧ ∃ a ws, v = .ref a ∧ H a = some (.dK ws) ∧ RpK K M H kvs ws
  | d => Rp K M H d v
theorem Rp.rq {K : PySem.W.Frag} {M : Addr → Prop} {H : Hp} {d : D} {v : V} (h : Rp K M H d v) : Rq K M H d v := by
  cases d with
  | lst ds => cases h with
    | lst l n h1 h2 => exact ⟨l, _, _, rfl, h1, h2⟩
  | dct ds => cases h with
    | dct l n h1 h2 => exact ⟨l, _, _, rfl, h1, h2⟩
  | _ => exact h
theorem Ow.rq {K : PySem.W.Frag} {M : Addr → Prop} {H : Hp} {d : D} {a : Addr} (h : Ow K M H d a) : Rq K M H d (.ref a) := by
  cases d with
  | lst ds => obtain ⟨_, l, vs, e, q⟩ := h; exact ⟨l, a, vs, rfl, e, q⟩
  | dct ds => obtain ⟨_, l, vs, e, q⟩ := h; exact ⟨l, a, vs, rfl, e, q⟩
  | _ => exact h.elim
theorem RelR.rq {B : Base} {M M' : Addr → Prop} {H H' : Hp} {ρ ρ' : Env} {σ : St} {r : RV} {v : V} {d : D} (h : RelR X.K σ M H ρ r v) (x : Ext M H M' H') (rp : Rep X.K B M' H' ρ' σ) (g : r.get ρ' = some d) : Rq X.K M' H' d v := by
  cases r with
  | val d' =>
    cases g
    exact (Rp.ext x h).rq
  | own i =>
    have hv : σ[i]? = some (some v) := h
    cases e : ρ'[i]? with
    | none => simp only [RV.get, e] at g; cases g
    | some s =>
      have q := rp.slot i s e
      simp only [RV.get, e] at g
      cases s with
      | no => cases g
      | v d => cases g
      | o d' =>
        cases g
        obtain ⟨a, e1, w, _⟩ := q
        rw [of_join hv] at e1
        cases e1
        exact w.rq
      | p d' =>
        cases g
        obtain ⟨a, e1, w, _⟩ := q
        rw [of_join hv] at e1
        cases e1
        exact w.rq
/-- an operand's value -/
def rGet (x : RV) : EM := fun ρ => ofO (x.get ρ) ρ

/-! ### operators -/
/-- what an operator's rule asks is served by f (its answer a value) -/
def OpE (X : Cx) (f : D → D → Option D) (r : R2) : Prop :=
  ∀ (B : Base) (W : WX) (M : Addr → Prop) (H : Hp) (ρ : Env) (σ : St) (d e z : D) (x y : V) (Q : V → Hp → Prop), Rep X.K B M H ρ σ → Rq X.K M H d x → Rq X.K M H e y → f d e = some z →
    Post X B W (RelE X.K) M H σ (.ok z ρ) Q → r x y H Q
/-- .. its answer a new object -/
def OpF (X : Cx) (f : D → D → Option D) (r : R2) : Prop :=
  ∀ (B : Base) (W : WX) (M : Addr → Prop) (H : Hp) (ρ : Env) (σ : St) (d e z : D) (x y : V) (Q : V → Hp → Prop), Rep X.K B M H ρ σ → Rq X.K M H d x → Rq X.K M H e y → f d e = some z →
    Post X B W (RelF X.K B σ) M H σ (.ok z ρ) Q → r x y H Q
def eOp2 (f : D → D → Option D) (ma mb : RM) : EM := fun ρ => (ma ρ).bind fun x ρ1 => (mb ρ1).bind fun y ρ2 => (ofO (x.get ρ2) ρ2).bind fun d _ => (ofO (y.get ρ2) ρ2).bind fun e _ => ofO (f d e) ρ2
section
variable {a b c : Expr} {ma mb mc : RM} {f g : D → D → Option D} {r r' : R2} {op : Operator} {cop cop' : CmpOp} {pos : Pos}
theorem op2_sat {ta tb : TE} {R : Base → St → (Addr → Prop) → Hp → Env → D → V → Prop} (sa : Sat X W (fun _ σ => RelR X.K σ) ta ma) (sb : Sat X W (fun _ σ => RelR X.K σ) tb mb)
    (h : ∀ (B : Base) (M : Addr → Prop) (H : Hp) (ρ : Env) (σ : St) (d e z : D) (x y : V) (Q : V → Hp → Prop), Rep X.K B M H ρ σ → Rq X.K M H d x → Rq X.K M H e y → f d e = some z → Post X B W (R B σ) M H σ (.ok z ρ) Q → r x y H Q) :
    Sat X W R (tOp r ta tb) (eOp2 f ma mb) := by
  intro B M H ρ σ Q rp k
  refine sa B M H ρ σ _ rp (Post.seq k fun x ρ1 M1 H1 v x1 r1 q1 k1 => ?_)
  refine sb B M1 H1 ρ1 σ _ r1 (Post.seq k1 fun y ρ2 M2 H2 w x2 r2 q2 k2 => ?_)
  cases ex : x.get ρ2 with
  | none => rw [ex] at k2; exact k2.elim
  | some d =>
    rw [ex] at k2
    cases ey : y.get ρ2 with
    | none => rw [ey] at k2; exact k2.elim
    | some e =>
      rw [ey] at k2
      cases ez : f d e with
      | none => simp only [ofO, Res.bind, ez] at k2; exact k2.elim
      | some z =>
        simp only [ofO, Res.bind, ez] at k2
        exact h B M2 H2 ρ2 σ d e z v w Q r2 (q1.rq x2 r2 ex) (q2.rq Ext.refl r2 ey) ez k2
theorem de_op (hr : OpR X (binaryOp op) r) (ho : OpE X f r) (ha : DR X W a ma) (hb : DR X W b mb) : DE X W (.BinOp a op b pos) (eOp2 f ma mb) := by
  obtain ⟨ta, pa, sa⟩ := ha
  obtain ⟨tb, pb, sb⟩ := hb
  exact ⟨_, pe_op hr pa pb, op2_sat sa sb fun B M H ρ σ d e z x y Q h1 h2 h3 h4 h5 => ho B W M H ρ σ d e z x y Q h1 h2 h3 h4 h5⟩
theorem df_op (hr : OpR X (binaryOp op) r) (ho : OpF X f r) (ha : DR X W a ma) (hb : DR X W b mb) : DF X W (.BinOp a op b pos) (eOp2 f ma mb) := by
  obtain ⟨ta, pa, sa⟩ := ha
  obtain ⟨tb, pb, sb⟩ := hb
  exact ⟨_, pe_op hr pa pb, op2_sat sa sb fun B M H ρ σ d e z x y Q h1 h2 h3 h4 h5 => ho B W M H ρ σ d e z x y Q h1 h2 h3 h4 h5⟩
theorem de_cmp (hr : OpR X (compareOp cop) r) (ho : OpE X f r) (ha : DR X W a ma) (hb : DR X W b mb) (hm : behindInMarks cop b = false) : DE X W (.Compare a [cop] [b] pos) (eOp2 f ma mb) := by
  obtain ⟨ta, pa, sa⟩ := ha
  obtain ⟨tb, pb, sb⟩ := hb
  exact ⟨_, pe_cmpR hr pa pb hm, op2_sat sa sb fun B M H ρ σ d e z x y Q h1 h2 h3 h4 h5 => ho B W M H ρ σ d e z x y Q h1 h2 h3 h4 h5⟩
/-- a truth -/
def asB (d : D) (ρ : Env) : Res Bool := match d with
  | .bl b => .ok b ρ
  | _ => .bad
theorem asB_bl (b : Bool) (ρ : Env) : asB (.bl b) ρ = .ok b ρ := rfl
def tOfE (m : EM) : TM := fun ρ => (m ρ).bind asB
theorem test_sat {te : TE} {m : EM} (h : Sat X W (fun _ _ => RelE X.K) te m) : Sat X W (fun _ _ => RelT) (tTest te) (tOfE m) := by
  intro B M H ρ σ Q rp k
  refine h B M H ρ σ _ rp (Post.seq k fun d ρ1 M1 H1 v x1 r1 q1 k1 => ?_)
  cases d with
  | bl b =>
    cases q1
    exact ⟨b, rfl, k1 M1 H1 b Ext.refl r1 rfl⟩
  | _ => exact k1.elim
theorem dt_cmp (hr : OpR X (compareOp cop) r) (ho : OpE X f r) (ha : DR X W a ma) (hb : DR X W b mb) (hm : behindInMarks cop b = false) : DT X W (.Compare a [cop] [b] pos) (tOfE (eOp2 f ma mb)) := by
  obtain ⟨ta, pa, sa⟩ := ha
  obtain ⟨tb, pb, sb⟩ := hb
  exact ⟨_, pt_cmpR hr pa pb hm, test_sat (op2_sat sa sb fun B M H ρ σ d e z x y Q h1 h2 h3 h4 h5 => ho B W M H ρ σ d e z x y Q h1 h2 h3 h4 h5)⟩
theorem dt_e {m : EM} (h : DE X W a m) (he : ∀ whole, isTrue a X.env whole = (do let v ← whole; standAt a.pos; holding [v] (truthy v)) := by intro _; rfl) : DT X W a (tOfE m) := by
  obtain ⟨t, pt, s⟩ := h
  exact ⟨_, pt_val pt he, test_sat s⟩
/-- a op b op' c -/
def eChain (f g : D → D → Option D) (ma mb mc : RM) : EM := fun ρ => (ma ρ).bind fun x ρ1 => (mb ρ1).bind fun y ρ2 => (ofO (x.get ρ2) ρ2).bind fun d _ => (ofO (y.get ρ2) ρ2).bind fun e _ =>
  (ofO (f d e) ρ2).bind fun z _ => (asB z ρ2).bind fun k _ => if k then (mc ρ2).bind fun w ρ3 => (ofO (y.get ρ3) ρ3).bind fun e' _ => (ofO (w.get ρ3) ρ3).bind fun h _ => ofO (g e' h) ρ3 else .ok (.bl false) ρ2
theorem RelR.ext {M M' : Addr → Prop} {H H' : Hp} {ρ ρ' : Env} {σ : St} {r : RV} {v : V} (x : Ext M H M' H') (h : RelR X.K σ M H ρ r v) : RelR X.K σ M' H' ρ' r v := by
  cases r with
  | val d => exact Rp.ext x h
  | own i => exact h
theorem chain_sat {ta tb tc : TE} (ho : OpE X f r) (ho' : OpE X g r') (sa : Sat X W (fun _ σ => RelR X.K σ) ta ma) (sb : Sat X W (fun _ σ => RelR X.K σ) tb mb) (sc : Sat X W (fun _ σ => RelR X.K σ) tc mc) :
    Sat X W (fun _ _ => RelE X.K) (tChain r r' ta tb tc) (eChain f g ma mb mc) := by
  intro B M H ρ σ Q rp k
  refine sa B M H ρ σ _ rp (Post.seq k fun x ρ1 M1 H1 v x1 r1 q1 k1 => ?_)
  refine sb B M1 H1 ρ1 σ _ r1 (Post.seq k1 fun y ρ2 M2 H2 w x2 r2 q2 k2 => ?_)
  cases ex : x.get ρ2 with
  | none => rw [ex] at k2; exact k2.elim
  | some d =>
    rw [ex] at k2
    cases ey : y.get ρ2 with
    | none => rw [ey] at k2; exact k2.elim
    | some e =>
      rw [ey] at k2
      cases ez : f d e with
      | none => simp only [ofO, Res.bind, ez] at k2; exact k2.elim
      | some z =>
        simp only [ofO, Res.bind, ez] at k2
        refine ho B W M2 H2 ρ2 σ d e z v w _ r2 (q1.rq x2 r2 ex) (q2.rq Ext.refl r2 ey) ez fun M3 H3 zv x3 r3 q3 => ?_
        cases z with
        | bl kk =>
          cases q3
          refine ⟨kk, rfl, ?_⟩
          cases kk with
          | false =>
            rw [if_neg Bool.false_ne_true]
            exact k2 M3 H3 _ x3 r3 (.bl false)
          | true =>
            rw [if_pos rfl]
            have k3 : Post X B W (RelE X.K) M3 H3 σ ((mc ρ2).bind fun w ρ3 => (ofO (y.get ρ3) ρ3).bind fun e' _ => (ofO (w.get ρ3) ρ3).bind fun h _ => ofO (g e' h) ρ3) Q := Post.shift x3 k2
            refine sc B M3 H3 ρ2 σ _ r3 (Post.seq k3 fun u ρ4 M4 H4 uv x4 r4 q4 k4 => ?_)
            cases ey' : y.get ρ4 with
            | none => rw [ey'] at k4; exact k4.elim
            | some e' =>
              rw [ey'] at k4
              cases eu : u.get ρ4 with
              | none => simp only [ofO, Res.bind, eu] at k4; exact k4.elim
              | some h' =>
                simp only [ofO, Res.bind, eu] at k4
                cases eg : g e' h' with
                | none => rw [eg] at k4; exact k4.elim
                | some z' =>
                  rw [eg] at k4
                  exact ho' B W M4 H4 ρ4 σ e' h' z' w uv Q r4 (q2.rq (x3.trans x4) r4 ey') (q4.rq Ext.refl r4 eu) eg k4
        | _ => exact k2.elim
theorem de_chain (hr : OpR X (compareOp cop) r) (ho : OpE X f r) (hr' : OpR X (compareOp cop') r') (ho' : OpE X g r') (ha : DR X W a ma) (hb : DR X W b mb) (hc : DR X W c mc)
    (hm : lastMarks [cop, cop'] [b, c] = false := by with_unfolding_all rfl) : DE X W (.Compare a [cop, cop'] [b, c] pos) (eChain f g ma mb mc) := by
  obtain ⟨ta, pa, sa⟩ := ha
  obtain ⟨tb, pb, sb⟩ := hb
  obtain ⟨tc, pc, sc⟩ := hc
  exact ⟨_, pe_chain hr hr' pa pb pc hm, chain_sat ho ho' sa sb sc⟩
theorem dt_chain (hr : OpR X (compareOp cop) r) (ho : OpE X f r) (hr' : OpR X (compareOp cop') r') (ho' : OpE X g r') (ha : DR X W a ma) (hb : DR X W b mb) (hc : DR X W c mc)
    (hm : lastMarks [cop, cop'] [b, c] = false := by with_unfolding_all rfl) : DT X W (.Compare a [cop, cop'] [b, c] pos) (tOfE (eChain f g ma mb mc)) := by
  obtain ⟨ta, pa, sa⟩ := ha
  obtain ⟨tb, pb, sb⟩ := hb
  obtain ⟨tc, pc, sc⟩ := hc
  exact ⟨_, pt_chain hr hr' pa pb pc hm, test_sat (chain_sat ho ho' sa sb sc)⟩
end

/-! ### and, or, not, if .. else -/
section
variable {a b : Expr} {rest : List Expr} {ma mb : TM} {pos : Pos}
def tAndM (ma mb : TM) : TM := fun ρ => (ma ρ).bind fun k ρ1 => if k then mb ρ1 else .ok false ρ1
def tOrM (ma mb : TM) : TM := fun ρ => (ma ρ).bind fun k ρ1 => if k then .ok true ρ1 else mb ρ1
def tNotM (ma : TM) : TM := fun ρ => (ma ρ).bind fun k ρ1 => .ok (!k) ρ1
theorem dw_and1 (ha : DT X W a ma) : DW X W (.BoolOp .And [a] pos) ma := by
  obtain ⟨t, pt, s⟩ := ha
  exact ⟨t, pw_and1 pt, s⟩
theorem dw_or1 (ha : DT X W a ma) : DW X W (.BoolOp .Or [a] pos) ma := by
  obtain ⟨t, pt, s⟩ := ha
  exact ⟨t, pw_or1 pt, s⟩
theorem dw_and (ha : DT X W a ma) (hb : DW X W (.BoolOp .And (b :: rest) pos) mb) : DW X W (.BoolOp .And (a :: b :: rest) pos) (tAndM ma mb) := by
  obtain ⟨t, pt, s⟩ := ha
  obtain ⟨u, pu, s'⟩ := hb
  refine ⟨_, pw_and pt pu, fun B M H ρ σ Q rp k => s B M H ρ σ _ rp (Post.seq k fun x ρ1 M1 H1 v x1 r1 q1 k1 => ?_)⟩
  cases q1
  cases x with
  | true => exact iteT (s' B M1 H1 ρ1 σ Q r1 k1)
  | false => exact iteF (k1 M1 H1 false Ext.refl r1 rfl)
theorem dw_or (ha : DT X W a ma) (hb : DW X W (.BoolOp .Or (b :: rest) pos) mb) : DW X W (.BoolOp .Or (a :: b :: rest) pos) (tOrM ma mb) := by
  obtain ⟨t, pt, s⟩ := ha
  obtain ⟨u, pu, s'⟩ := hb
  refine ⟨_, pw_or pt pu, fun B M H ρ σ Q rp k => s B M H ρ σ _ rp (Post.seq k fun x ρ1 M1 H1 v x1 r1 q1 k1 => ?_)⟩
  cases q1
  cases x with
  | true => exact iteT (k1 M1 H1 true Ext.refl r1 rfl)
  | false => exact iteF (s' B M1 H1 ρ1 σ Q r1 k1)
theorem dt_not (ha : DT X W a ma) : DT X W (.UnaryOp .Not a pos) (tNotM ma) := by
  obtain ⟨t, pt, s⟩ := ha
  refine ⟨_, pt_not pt, fun B M H ρ σ Q rp k => s B M H ρ σ _ rp (Post.seq k fun x ρ1 M1 H1 v x1 r1 q1 k1 => ?_)⟩
  cases q1
  exact k1 M1 H1 _ Ext.refl r1 rfl
def eIf (mc : TM) (ma mb : EM) : EM := fun ρ => (mc ρ).bind fun k ρ1 => if k then ma ρ1 else mb ρ1
theorem de_if {c : Expr} {mc : TM} {ea eb : EM} (hc : DT X W c mc) (ha : DE X W a ea) (hb : DE X W b eb) : DE X W (.IfExp c a b pos) (eIf mc ea eb) := by
  obtain ⟨t, pt, s⟩ := hc
  obtain ⟨u, pu, s1⟩ := ha
  obtain ⟨u', pu', s2⟩ := hb
  refine ⟨_, pe_ifExp pt pu pu', fun B M H ρ σ Q rp k => s B M H ρ σ _ rp (Post.seq k fun x ρ1 M1 H1 v x1 r1 q1 k1 => ?_)⟩
  cases q1
  cases x with
  | true => exact iteT (s1 B M1 H1 ρ1 σ Q r1 k1)
  | false => exact iteF (s2 B M1 H1 ρ1 σ Q r1 k1)
/-- truth of a value -/
def truthy : D → Option Bool
  | .non => some false
  | .bl b => some b
  | .int i => some (i != 0)
  | .str x => some ((x.length : Int) != 0)
  | .tup xs => some (!xs.isEmpty)
  | .lst xs => some (!xs.isEmpty)
  | .dct xs => some (!xs.isEmpty)
  | _ => none
theorem truV_of {M : Addr → Prop} {H : Hp} {d : D} {v : V} {k : Bool} (h : Rq X.K M H d v) (e : truthy d = some k) : TruV X.K v H k := by
  cases d with
  | non => cases h; cases e; rfl
  | bl b => cases h; cases e; rfl
  | int i => cases h; cases e; rfl
  | str x => cases h with
    | str g => cases e; exact ⟨g.1, rfl⟩
  | tup xs => cases h with
    | tup l h1 h2 =>
      cases e
      refine .inr (.inl ⟨_, h1, ?_⟩)
      cases h2 <;> rfl
  | lst xs =>
    obtain ⟨l, a, vs, rfl, h1, h2⟩ := h
    cases e
    refine .inl ⟨_, SqL.of h1, ?_⟩
    cases h2 <;> rfl
  | dct xs =>
    obtain ⟨l, a, vs, rfl, h1, h2⟩ := h
    cases e
    refine .inr (.inr ⟨_, h1, ?_⟩)
    cases h2 <;> rfl
  | _ => cases e
def eAnd (ma mb : EM) : EM := fun ρ => (ma ρ).bind fun d ρ1 => (ofO (truthy d) ρ1).bind fun k _ => if k then mb ρ1 else .ok d ρ1
def eOr (ma mb : EM) : EM := fun ρ => (ma ρ).bind fun d ρ1 => (ofO (truthy d) ρ1).bind fun k _ => if k then .ok d ρ1 else mb ρ1
def eNot (ma : EM) : EM := fun ρ => (ma ρ).bind fun d ρ1 => (ofO (truthy d) ρ1).bind fun k _ => .ok (.bl (!k)) ρ1
theorem de_one {op} {m : EM} (h : DE X W a m) : DE X W (.BoolOp op [a] pos) m := by
  obtain ⟨t, pt, s⟩ := h
  exact ⟨t, pe_one pt, s⟩
variable {ea eb : EM}
end
end
end NV

set_option Elab.async false
set_option linter.all false
set_option maxRecDepth 100000
set_option maxHeartbeats 4000000
/-! Core3: the operators and the built-in functions. -/
namespace NV
open PySem PySem.Spec PyProof.Rows L2

structure Cd (X : Cx) : Prop where
  calm : X.calm = true
  units : X.A.units + 64 < cLine
theorem Cd.blk {X : Cx} (c : Cd X) {s : Shared} {H : Hp} {scope : Scope} {cenv : PySem.Env} {fp : List Addr} : Cd (X.blk s H scope cenv fp) := ⟨c.calm, c.units⟩

/-! ### a scalar answer, a new object -/
section
variable {X : Cx} {B : Base} {W : WX} {M : Addr → Prop} {H : Hp} {ρ : Env} {σ : St} {z : D} {Q : V → Hp → Prop}
theorem post_v (h : Post X B W (RelE X.K) M H σ (.ok z ρ) Q) (r : Rep X.K B M H ρ σ) {v : V} (q : Rp X.K M H z v) : Q v H := h M H v Ext.refl r q
/-- a new tuple -/
theorem post_t {ds : List D} {vs : List V} {p : Addr} (h : Post X B W (RelE X.K) M H σ (.ok (.tup ds) ρ) Q) (r : Rep X.K B M H ρ σ) (q : RpL X.K M H ds vs) (hl : ds.length ≤ sizeLine) (hp : H p = none) : Q (.ref p) (upd H p (.tup vs)) :=
  h M _ _ (Ext.new hp) (r.alloc hp) (.tup hl (SqT.of upd_same) (q.ext (Ext.new hp)))
/-- a new list, as a value -/
theorem post_l {ds : List D} {vs : List V} {p : Addr} (h : Post X B W (RelE X.K) M H σ (.ok (.lst ds) ρ) Q) (r : Rep X.K B M H ρ σ) (q : RpL X.K M H ds vs) (hl : ds.length ≤ sizeLine) (hp : H p = none) : Q (.ref p) (upd H p (.lst vs)) :=
  h M _ _ (Ext.new hp) (r.alloc hp) (.lst hl (fun m => r.trk p m hp) upd_same (q.ext (Ext.new hp)))
theorem Rep.anon_new (r : Rep X.K B M H ρ σ) {p : Addr} (hp : H p = none) : Anon ρ σ p := fun i s hi ho hv => r.own_ne hi ho hv hp rfl
theorem Rep.base_new (r : Rep X.K B M H ρ σ) {p : Addr} (hp : H p = none) : B.H p = none := by
  cases q : B.H p with
  | none => rfl
  | some o => exact absurd hp (r.old p (by rw [q]; simp))
theorem Rep.pr_new (r : Rep X.K B M H ρ σ) {p : Addr} (hp : H p = none) : ∀ q ∈ B.pr, q.1 ≠ p := fun q hq => ne_of_none (r.pr q hq).1 hp
/-- a new list, owned -/
theorem post_o {ds : List D} {vs : List V} {p : Addr} (h : Post X B W (RelF X.K B σ) M H σ (.ok (.lst ds) ρ) Q) (r : Rep X.K B M H ρ σ) (q : RpL X.K M H ds vs) (hl : ds.length ≤ sizeLine) (hp : H p = none) : Q (.ref p) (upd H p (.lst vs)) :=
  h _ _ _ (Ext.newO hp) (r.allocO hp) ⟨p, rfl, ⟨.inr rfl, hl, vs, upd_same, q.ext (Ext.newO hp)⟩, r.base_new hp, r.anon_new hp, r.pr_new hp⟩
theorem post_od {ds : List (Key × D)} {vs : List (Key × V)} {p : Addr} (h : Post X B W (RelF X.K B σ) M H σ (.ok (.dct ds) ρ) Q) (r : Rep X.K B M H ρ σ) (q : RpK X.K M H ds vs) (hl : ds.length ≤ sizeLine) (hp : H p = none) : Q (.ref p) (upd H p (.dK vs)) :=
  h _ _ _ (Ext.newO hp) (r.allocO hp) ⟨p, rfl, ⟨.inr rfl, hl, vs, upd_same, q.ext (Ext.newO hp)⟩, r.base_new hp, r.anon_new hp, r.pr_new hp⟩
theorem post_d {ds : List (Key × D)} {vs : List (Key × V)} {p : Addr} (h : Post X B W (RelE X.K) M H σ (.ok (.dct ds) ρ) Q) (r : Rep X.K B M H ρ σ) (q : RpK X.K M H ds vs) (hl : ds.length ≤ sizeLine) (hp : H p = none) : Q (.ref p) (upd H p (.dK vs)) :=
  h M _ _ (Ext.new hp) (r.alloc hp) (.dct hl (fun m => r.trk p m hp) upd_same (q.ext (Ext.new hp)))
end

theorem rq_int {K : PySem.W.Frag} {M : Addr → Prop} {H : Hp} {i : Int} {v : V} (h : Rq K M H (.int i) v) : v = .int i := by cases h; rfl
theorem rq_bl {K : PySem.W.Frag} {M : Addr → Prop} {H : Hp} {i : Bool} {v : V} (h : Rq K M H (.bl i) v) : v = .bl i := by cases h; rfl
theorem rq_non {K : PySem.W.Frag} {M : Addr → Prop} {H : Hp} {v : V} (h : Rq K M H .non v) : v = .non := by cases h; rfl
theorem rq_str {K : PySem.W.Frag} {M : Addr → Prop} {H : Hp} {x : Str} {v : V} (h : Rq K M H (.str x) v) : v = .str x ∧ StrG x := by cases h with | str g => exact ⟨rfl, g⟩
theorem rq_tup {K : PySem.W.Frag} {M : Addr → Prop} {H : Hp} {ds : List D} {v : V} (h : Rq K M H (.tup ds) v) : ∃ a vs, v = .ref a ∧ ds.length ≤ sizeLine ∧ SqT K H a vs ∧ RpL K M H ds vs := by cases h with | tup l h1 h2 => exact ⟨_, _, rfl, l, h1, h2⟩
theorem rq_lst {K : PySem.W.Frag} {M : Addr → Prop} {H : Hp} {ds : List D} {v : V} (h : Rq K M H (.lst ds) v) : ∃ a vs, v = .ref a ∧ ds.length ≤ sizeLine ∧ H a = some (.lst vs) ∧ RpL K M H ds vs := by
  obtain ⟨l, a, vs, e, h1, h2⟩ := h
  exact ⟨a, vs, e, l, h1, h2⟩
theorem rq_dct {K : PySem.W.Frag} {M : Addr → Prop} {H : Hp} {ds : List (Key × D)} {v : V} (h : Rq K M H (.dct ds) v) : ∃ a vs, v = .ref a ∧ ds.length ≤ sizeLine ∧ H a = some (.dK vs) ∧ RpK K M H ds vs := by
  obtain ⟨l, a, vs, e, h1, h2⟩ := h
  exact ⟨a, vs, e, l, h1, h2⟩
theorem rq_scr {K : PySem.W.Frag} {M : Addr → Prop} {H : Hp} {xs : List Int} {v : V} (h : Rq K M H (.scr xs) v) : ∃ a, v = .ref a ∧ xs.length ≤ sizeLine ∧ SqS K H a xs := by cases h with | scr l h1 => exact ⟨_, rfl, l, h1⟩

/-! ### arithmetic -/
def addD : D → D → Option D
  | .int i, .int j => some (.int (i + j))
  | .str a, .str b => if a.length + b.length ≤ sizeLine then some (.str (a ++ b)) else none
  | .tup a, .tup b => if a.length + b.length ≤ sizeLine then some (.tup (a ++ b)) else none
  | .lst a, .lst b => if a.length + b.length ≤ sizeLine then some (.lst (a ++ b)) else none
  | _, _ => none
theorem strG_append {a b : Str} (ha : StrG a) (hb : StrG b) (h : a.length + b.length ≤ sizeLine) : StrG (a ++ b) := by
  refine ⟨?_, ?_⟩
  · show (a.cps ++ b.cps).size ≤ sizeLine
    rw [Array.size_append]
    exact h
  · have h1 := ha.2
    have h2 := hb.2
    unfold PySem.PyData.strOk at h1 h2 ⊢
    show (a.cps ++ b.cps).all _ = true
    rw [Array.all_append, h1, h2]
    rfl
def rAddS : R2 := fun x y H Q => ∃ i j, x = .str i ∧ y = .str j ∧ i.length + j.length ≤ sizeLine ∧ Q (.str (i ++ j)) H
abbrev rAddI : R2 := rI0 fun i j => .int (i + j)
def rAdd4 (K : PySem.W.Frag) : R2 := fun x y H Q => rAddI x y H Q ∨ (rAddS x y H Q ∨ (rCatA K x y H Q ∨ rCat x y H Q))
section
variable {X : Cx}
theorem op_add4 : OpR X (binaryOp .Add) (rAdd4 X.K) := op_add.or (OpR.or (r := rAddS) op_add_str (op_catA.or op_cat))
theorem o_add : OpE X addD (rAdd4 X.K) := by
  intro B W M H ρ σ d e z x y Q rp hx hy hf h
  unfold addD at hf
  split at hf
  · cases hf
    exact .inl ⟨_, _, rq_int hx, rq_int hy, post_v h rp (.int _)⟩
  · split at hf
    · rename_i hl
      cases hf
      obtain ⟨e1, g1⟩ := rq_str hx
      obtain ⟨e2, g2⟩ := rq_str hy
      exact .inr (.inl ⟨_, _, e1, e2, hl, post_v h rp (.str (strG_append g1 g2 hl))⟩)
    · cases hf
  · split at hf
    · rename_i hl
      cases hf
      obtain ⟨a, vs, e1, l1, t1, r1⟩ := rq_tup hx
      obtain ⟨b, ws, e2, l2, t2, r2⟩ := rq_tup hy
      subst e1 e2
      refine .inr (.inr (.inl ⟨a, b, vs, ws, rfl, rfl, t1, t2, by rw [← r1.length, ← r2.length]; exact hl, fun e => ?_, fun _ e => ?_, fun _ _ p hp => ?_⟩))
      · subst e
        cases r1
        exact post_v h rp (.tup (by simpa using hl) t2 r2)
      · subst e
        cases r2
        exact post_v h rp (.tup (by simpa using hl) t1 (by simpa using r1))
      · exact post_t h rp (r1.append r2) (by simpa using hl) hp
    · cases hf
  · split at hf
    · rename_i hl
      cases hf
      obtain ⟨a, vs, e1, l1, t1, r1⟩ := rq_lst hx
      obtain ⟨b, ws, e2, l2, t2, r2⟩ := rq_lst hy
      subst e1 e2
      exact .inr (.inr (.inr ⟨a, b, vs, ws, rfl, rfl, t1, t2, by rw [← r1.length, ← r2.length]; exact hl, fun p hp => post_l h rp (r1.append r2) (by simpa using hl) hp⟩))
    · cases hf
  · cases hf
/-- two lists -/
def catD : D → D → Option D
  | .lst a, .lst b => if a.length + b.length ≤ sizeLine then some (.lst (a ++ b)) else none
  | _, _ => none
theorem o_cat : OpF X catD rCat := by
  intro B W M H ρ σ d e z x y Q rp hx hy hf h
  unfold catD at hf
  split at hf
  · split at hf
    · rename_i hl
      cases hf
      obtain ⟨a, vs, e1, l1, t1, r1⟩ := rq_lst hx
      obtain ⟨b, ws, e2, l2, t2, r2⟩ := rq_lst hy
      subst e1 e2
      exact ⟨a, b, vs, ws, rfl, rfl, t1, t2, by rw [← r1.length, ← r2.length]; exact hl, fun p hp => post_o h rp (r1.append r2) (by simpa using hl) hp⟩
    · cases hf
  · cases hf
/-- ints in, under a condition, a scalar out -/
theorem o_int {C : Int → Int → Prop} [∀ i j, Decidable (C i j)] {g : Int → Int → V} {g' : Int → Int → D} (hg : ∀ i j K M H, Rp K M H (g' i j) (g i j)) :
    OpE X (fun d e => match d, e with
      | .int i, .int j => if C i j then some (g' i j) else none
      | _, _ => none) (rI C g) := by
  intro B W M H ρ σ d e z x y Q rp hx hy hf h
  dsimp only at hf
  split at hf
  · split at hf
    · rename_i hc
      cases hf
      exact ⟨_, _, rq_int hx, rq_int hy, hc, post_v h rp (hg _ _ _ _ _)⟩
    · cases hf
  · cases hf
theorem o_int0 {g : Int → Int → V} {g' : Int → Int → D} (hg : ∀ i j K M H, Rp K M H (g' i j) (g i j)) :
    OpE X (fun d e => match d, e with
      | .int i, .int j => some (g' i j)
      | _, _ => none) (rI0 g) := by
  intro B W M H ρ σ d e z x y Q rp hx hy hf h
  dsimp only at hf
  split at hf
  · cases hf
    exact ⟨_, _, rq_int hx, rq_int hy, post_v h rp (hg _ _ _ _ _)⟩
  · cases hf
def i2 (g' : Int → Int → D) : D → D → Option D := fun d e => match d, e with
  | .int i, .int j => some (g' i j)
  | _, _ => none
def i2c (C : Int → Int → Prop) [∀ i j, Decidable (C i j)] (g' : Int → Int → D) : D → D → Option D := fun d e => match d, e with
  | .int i, .int j => if C i j then some (g' i j) else none
  | _, _ => none
def subD := i2 fun i j => .int (i - j)
theorem o_sub : OpE X subD (rI0 fun i j => .int (i - j)) := o_int0 fun _ _ _ _ _ => .int _
instance (i j : Int) : Decidable (CMul i j) := by unfold CMul; infer_instance
instance (i j : Int) : Decidable (CDiv i j) := by unfold CDiv; infer_instance
instance (i j : Int) : Decidable (CPow i j) := by unfold CPow; infer_instance
def fdivD := i2c CDiv fun i j => .int (i / j)
theorem o_fdiv : OpE X fdivD (rI CDiv fun i j => .int (i / j)) := o_int fun _ _ _ _ _ => .int _
def modD := i2c (fun _ j => 0 < j) fun i j => .int (i % j)
theorem o_mod : OpE X modD (rI (fun _ j => 0 < j) fun i j => .int (i % j)) := o_int fun _ _ _ _ _ => .int _
def powD := i2c CPow fun i j => .int (i ^ j.toNat)
theorem o_pow : OpE X powD (rI CPow fun i j => .int (i ^ j.toNat)) := o_int fun _ _ _ _ _ => .int _
def shrD := i2c (fun _ j => 0 ≤ j) fun i j => .int (i / 2 ^ j.toNat)
theorem o_shr : OpE X shrD (rI (fun _ j => 0 ≤ j) fun i j => .int (i / 2 ^ j.toNat)) := o_int fun _ _ _ _ _ => .int _
def andD := i2 fun i j => .int (Builtin.bitAnd i j)
theorem o_and : OpE X andD (rI0 fun i j => .int (Builtin.bitAnd i j)) := o_int0 fun _ _ _ _ _ => .int _
def ltD := i2 fun i j => .bl (decide (i < j))
theorem o_lt : OpE X ltD (rI0 fun i j => .bl (decide (i < j))) := o_int0 fun _ _ _ _ _ => .bl _
def leD := i2 fun i j => .bl (decide (i ≤ j))
theorem o_le : OpE X leD (rI0 fun i j => .bl (decide (i ≤ j))) := o_int0 fun _ _ _ _ _ => .bl _
def gtD := i2 fun i j => .bl (decide (j < i))
theorem o_gt : OpE X gtD (rI0 fun i j => .bl (decide (j < i))) := o_int0 fun _ _ _ _ _ => .bl _
def geD := i2 fun i j => .bl (decide (j ≤ i))
theorem o_ge : OpE X geD (rI0 fun i j => .bl (decide (j ≤ i))) := o_int0 fun _ _ _ _ _ => .bl _
/-- int * int, list * int -/
def repL (xs : List D) (k : Int) : List D := (List.replicate k.toNat xs).flatten
def mulD : D → D → Option D
  | .int i, .int j => if CMul i j then some (.int (i * j)) else none
  | .lst xs, .int k => if -(2 ^ 63) ≤ k ∧ k < 2 ^ 63 ∧ xs.length * k.toNat ≤ sizeLine then some (.lst (repL xs k)) else none
  | _, _ => none
def rMul2 : R2 := fun x y H Q => rI CMul (fun i j => .int (i * j)) x y H Q ∨ rRep x y H Q
theorem op_mul2 : OpR X (binaryOp .Mult) rMul2 := op_mul.or op_rep
theorem RpL.rep {K : PySem.W.Frag} {M : Addr → Prop} {H : Hp} {ds : List D} {vs : List V} (h : RpL K M H ds vs) : ∀ k : Nat, RpL K M H (List.replicate k ds).flatten (List.replicate k vs).flatten
  | 0 => .nil
  | k + 1 => by
    rw [List.replicate_succ, List.replicate_succ, List.flatten_cons, List.flatten_cons]
    exact h.append (RpL.rep h k)
theorem repL_length (xs : List D) (k : Int) : (repL xs k).length = xs.length * k.toNat := by
  unfold repL
  rw [List.length_flatten, List.map_replicate, List.sum_replicate_nat, Nat.mul_comm]
end
end NV

set_option Elab.async false
set_option linter.all false
set_option maxRecDepth 100000
set_option maxHeartbeats 4000000
/-! Core3b: equality, in, is. -/
namespace NV
open PySem PySem.Spec PyProof.Rows L2

section
variable {X : Cx}
theorem o_mul : OpE X mulD rMul2 := by
  intro B W M H ρ σ d e z x y Q rp hx hy hf h
  unfold mulD at hf
  split at hf
  · split at hf
    · rename_i hc
      cases hf
      exact .inl ⟨_, _, rq_int hx, rq_int hy, hc, post_v h rp (.int _)⟩
    · cases hf
  · split at hf
    · rename_i hc
      cases hf
      obtain ⟨a, vs, e1, l1, t1, r1⟩ := rq_lst hx
      exact .inr ⟨a, _, vs, e1, rq_int hy, t1, hc.1, hc.2.1, by rw [← r1.length]; exact hc.2.2, fun p hp => post_l h rp (r1.rep _) (by rw [repL_length]; exact hc.2.2) hp⟩
    · cases hf
  · cases hf
def repD : D → D → Option D
  | .lst xs, .int k => if -(2 ^ 63) ≤ k ∧ k < 2 ^ 63 ∧ xs.length * k.toNat ≤ sizeLine then some (.lst (repL xs k)) else none
  | _, _ => none
theorem o_rep : OpF X repD rRep := by
  intro B W M H ρ σ d e z x y Q rp hx hy hf h
  unfold repD at hf
  split at hf
  · split at hf
    · rename_i hc
      cases hf
      obtain ⟨a, vs, e1, l1, t1, r1⟩ := rq_lst hx
      exact ⟨a, _, vs, e1, rq_int hy, t1, hc.1, hc.2.1, by rw [← r1.length]; exact hc.2.2, fun p hp => post_o h rp (r1.rep _) (by rw [repL_length]; exact hc.2.2) hp⟩
    · cases hf
  · cases hf
end

/-! ### == -/
mutual
def toPy : D → PyData
  | .non => .none
  | .bl b => .bool b
  | .int i => .int i
  | .str x => .str x
  | .tup ds => .tuple (toPyL ds)
  | .lst ds => .list (toPyL ds)
  | .dct _ => .dict []
  | .exn _ _ => .dict []
  | .scr _ => .dict []
def toPyL : List D → List PyData
  | [] => []
  | d :: ds => toPy d :: toPyL ds
end
mutual
/-- data that == is told of, at most n deep -/
def okD : Nat → D → Bool
  | _, .non => true
  | _, .bl _ => true
  | _, .int _ => true
  | _, .str _ => true
  | 0, .tup _ => false
  | n + 1, .tup ds => okL n ds
  | 0, .lst _ => false
  | n + 1, .lst ds => okL n ds
  | _, .dct _ => false
  | _, .exn _ _ => false
  | _, .scr _ => false
def okL : Nat → List D → Bool
  | _, [] => true
  | n, d :: ds => okD n d && okL n ds
end
theorem toPyL_map : ∀ ds : List D, toPyL ds = ds.map toPy
  | [] => by rw [toPyL]; rfl
  | d :: ds => by rw [toPyL, toPyL_map ds]; rfl
mutual
theorem okD.depth : ∀ (n : Nat) (d : D), okD n d = true → (toPy d).depth ≤ n
  | n, .non, _ => by rw [toPy, PyData.depth] <;> first | exact Nat.zero_le _ | (intros; intro z; cases z)
  | n, .bl _, _ => by rw [toPy, PyData.depth] <;> first | exact Nat.zero_le _ | (intros; intro z; cases z)
  | n, .int _, _ => by rw [toPy, PyData.depth] <;> first | exact Nat.zero_le _ | (intros; intro z; cases z)
  | n, .str _, _ => by rw [toPy, PyData.depth] <;> first | exact Nat.zero_le _ | (intros; intro z; cases z)
  | 0, .tup _, h => by rw [okD] at h; cases h
  | n + 1, .tup ds, h => by
    rw [okD] at h
    rw [toPy, PyData.depth]
    exact Nat.succ_le_succ (okL.depth n ds h)
  | 0, .lst _, h => by rw [okD] at h; cases h
  | n + 1, .lst ds, h => by
    rw [okD] at h
    rw [toPy, PyData.depth]
    exact Nat.succ_le_succ (okL.depth n ds h)
  | n, .dct _, h => by rw [okD] at h; cases h
  | n, .exn _ _, h => by rw [okD] at h; cases h
  | n, .scr _, h => by rw [okD] at h; cases h
theorem okL.depth : ∀ (n : Nat) (ds : List D), okL n ds = true → PyData.depthAll (toPyL ds) ≤ n
  | n, [], _ => by rw [toPyL, PyData.depthAll]; exact Nat.zero_le _
  | n, d :: ds, h => by
    rw [okL, Bool.and_eq_true] at h
    rw [toPyL, PyData.depthAll]
    exact Nat.max_le.mpr ⟨okD.depth n d h.1, okL.depth n ds h.2⟩
end
section
variable {K : PySem.W.Frag} {M : Addr → Prop} {H : Hp}
mutual
theorem Rp.dp : ∀ (n : Nat) {d : D} {v : V}, okD n d = true → Rp K M H d v → Dp K H v (toPy d) ∧ (toPy d).canLay0 = true
  | n, .non, _, _, r => by cases r; rw [toPy]; exact ⟨.non, by rw [PyData.canLay0]⟩
  | n, .bl _, _, _, r => by cases r; rw [toPy]; exact ⟨.bl _, by rw [PyData.canLay0]⟩
  | n, .int _, _, _, r => by cases r; rw [toPy]; exact ⟨.int _, by rw [PyData.canLay0]⟩
  | n, .str _, _, _, r => by cases r with | str g => rw [toPy]; exact ⟨.str _, by rw [PyData.canLay0]; exact g.2⟩
  | 0, .tup _, _, h, _ => by rw [okD] at h; cases h
  | n + 1, .tup ds, _, h, r => by
    rw [okD] at h
    cases r with
    | tup l h1 h2 =>
      rw [toPy]
      obtain ⟨a, b⟩ := RpL.dp n h h2
      exact ⟨.tup h1 a, by rw [PyData.canLay0]; exact b⟩
  | 0, .lst _, _, h, _ => by rw [okD] at h; cases h
  | n + 1, .lst ds, _, h, r => by
    rw [okD] at h
    cases r with
    | lst l m h1 h2 =>
      rw [toPy]
      obtain ⟨a, b⟩ := RpL.dp n h h2
      exact ⟨.lst (SqL.of h1) a, by rw [PyData.canLay0]; exact b⟩
  | n, .dct _, _, h, _ => by rw [okD] at h; cases h
  | n, .exn _ _, _, h, _ => by rw [okD] at h; cases h
  | n, .scr _, _, h, _ => by rw [okD] at h; cases h
theorem RpL.dp : ∀ (n : Nat) {ds : List D} {vs : List V}, okL n ds = true → RpL K M H ds vs → DpAll K H vs (toPyL ds) ∧ PyData.canLayAll0 (toPyL ds) = true
  | n, [], _, _, r => by cases r; rw [toPyL]; exact ⟨.nil, by rw [PyData.canLayAll0]⟩
  | n, d :: ds, _, h, r => by
    rw [okL, Bool.and_eq_true] at h
    cases r with
    | cons r1 r2 =>
      obtain ⟨a1, b1⟩ := Rp.dp n h.1 r1
      obtain ⟨a2, b2⟩ := RpL.dp n h.2 r2
      rw [toPyL]
      exact ⟨.cons a1 a2, by rw [PyData.canLayAll0, b1, b2]; rfl⟩
end
theorem Rq.dp {n : Nat} {d : D} {v : V} (h : okD n d = true) (r : Rq K M H d v) : Dp K H v (toPy d) ∧ (toPy d).canLay0 = true := by
  cases d with
  | lst ds =>
    obtain ⟨l, a, vs, rfl, h1, h2⟩ := r
    cases n with
    | zero => rw [okD] at h; cases h
    | succ n =>
      rw [okD] at h
      obtain ⟨a, b⟩ := RpL.dp n h h2
      rw [toPy]
      exact ⟨.lst (SqL.of h1) a, by rw [PyData.canLay0]; exact b⟩
  | dct ds => rw [okD] at h; cases h
  | _ => exact Rp.dp n h r
end
def eqD (d e : D) : Bool := PyData.eqv (toPy d) (toPy e)
def eqO (d e : D) : Option D := match d, e with
  | .tup ds, .tup [] => some (.bl ds.isEmpty)
  | d, e => if okD 60 d = true ∧ okD 60 e = true then some (.bl (eqD d e)) else none
def neO (d e : D) : Option D := match d, e with
  | .tup ds, .tup [] => some (.bl (!ds.isEmpty))
  | d, e => if okD 60 d = true ∧ okD 60 e = true then some (.bl (!eqD d e)) else none
section
variable {X : Cx}
/-- a tuple and an empty one -/
def rEq0 (K : PySem.W.Frag) : R2 := fun x y H Q => ∃ a b xs, x = .ref a ∧ y = .ref b ∧ SqT K H a xs ∧ SqT K H b [] ∧ Q (.bl xs.isEmpty) H
def rNe0 (K : PySem.W.Frag) : R2 := fun x y H Q => ∃ a b xs, x = .ref a ∧ y = .ref b ∧ SqT K H a xs ∧ SqT K H b [] ∧ Q (.bl (!xs.isEmpty)) H
theorem op_eq0 (c : Cd X) : OpR X (compareOp .Eq) (rEq0 X.K) := by
  intro pins s σ H x y v u Q I rx ry h
  obtain ⟨a, b, xs, rfl, rfl, h1, h2, q⟩ := h
  cases rx
  cases ry
  obtain ⟨its, r1, t1, _⟩ := I.tuple h1
  obtain ⟨its2, r2, t2, _⟩ := I.tuple h2
  cases r2
  refine SeqAt.eq_tupleAt (e := fun _ => true) t1 t2 (Nat.lt_of_le_of_lt (Nat.le_add_right _ _) c.units) (fun j _ h2 => absurd h2 (by simp)) (fin_bl I q ?_)
  cases r1 <;> simp
theorem op_ne0 (c : Cd X) : OpR X (compareOp .NotEq) (rNe0 X.K) := by
  intro pins s σ H x y v u Q I rx ry h
  obtain ⟨a, b, xs, rfl, rfl, h1, h2, q⟩ := h
  cases rx
  cases ry
  obtain ⟨its, r1, t1, _⟩ := I.tuple h1
  obtain ⟨its2, r2, t2, _⟩ := I.tuple h2
  cases r2
  refine (SeqAt.RcNeAt.tuples (e := fun _ => true) t1 t2 (Nat.lt_of_le_of_lt (Nat.le_add_right _ _) c.units) (fun j _ h2 => absurd h2 (by simp))) _ _ _ _ (fin_bl I q ?_)
  cases r1 <;> simp
def rEq2 (K : PySem.W.Frag) : R2 := fun x y H Q => rEqD K x y H Q ∨ rEq0 K x y H Q
def rNe2 (K : PySem.W.Frag) : R2 := fun x y H Q => rNeD K x y H Q ∨ rNe0 K x y H Q
theorem op_eq2 (c : Cd X) : OpR X (compareOp .Eq) (rEq2 X.K) := (op_eqD c.units).or (op_eq0 c)
theorem op_ne2 (c : Cd X) : OpR X (compareOp .NotEq) (rNe2 X.K) := (op_neD c.units).or (op_ne0 c)
theorem shaped_of {n : Nat} {d : D} (h : okD n d = true) (hn : n ≤ 64) (c : (toPy d).canLay0 = true) : SeqAt.shaped (toPy d) = true := by
  unfold SeqAt.shaped
  rw [c, decide_eq_true (Nat.le_trans (okD.depth n d h) hn)]
  rfl
theorem o_eq : OpE X eqO (rEq2 X.K) := by
  intro B W M H ρ σ d e z x y Q rp hx hy hf h
  unfold eqO at hf
  split at hf
  · cases hf
    obtain ⟨a, vs, e1, l1, t1, r1⟩ := rq_tup hx
    obtain ⟨b, ws, e2, l2, t2, r2⟩ := rq_tup hy
    cases r2
    refine .inr ⟨a, b, vs, e1, e2, t1, t2, ?_⟩
    have e : ∀ {ds : List D}, RpL X.K M H ds vs → vs.isEmpty = ds.isEmpty := fun r => by cases r <;> rfl
    rw [e r1]
    exact post_v h rp (.bl _)
  · split at hf
    · rename_i hc
      cases hf
      obtain ⟨d1, c1⟩ := hx.dp hc.1
      obtain ⟨d2, c2⟩ := hy.dp hc.2
      exact .inl ⟨_, _, d1, d2, shaped_of hc.1 (by decide) c1, shaped_of hc.2 (by decide) c2, post_v h rp (.bl _)⟩
    · cases hf
theorem o_ne : OpE X neO (rNe2 X.K) := by
  intro B W M H ρ σ d e z x y Q rp hx hy hf h
  unfold neO at hf
  split at hf
  · cases hf
    obtain ⟨a, vs, e1, l1, t1, r1⟩ := rq_tup hx
    obtain ⟨b, ws, e2, l2, t2, r2⟩ := rq_tup hy
    cases r2
    refine .inr ⟨a, b, vs, e1, e2, t1, t2, ?_⟩
    have e : ∀ {ds : List D}, RpL X.K M H ds vs → vs.isEmpty = ds.isEmpty := fun r => by cases r <;> rfl
    rw [e r1]
    exact post_v h rp (.bl _)
  · split at hf
    · rename_i hc
      cases hf
      obtain ⟨d1, c1⟩ := hx.dp hc.1
      obtain ⟨d2, c2⟩ := hy.dp hc.2
      exact .inl ⟨_, _, d1, d2, shaped_of hc.1 (by decide) c1, shaped_of hc.2 (by decide) c2, post_v h rp (.bl _)⟩
    · cases hf

/-! ### is: the right side None, True or False -/
def isNon : D → Bool
  | .non => true
  | _ => false
def isBl (b : Bool) : D → Bool
  | .bl a => a == b
  | _ => false
def isD (d e : D) : Option D := match e with
  | .non => some (.bl (isNon d))
  | .bl b => some (.bl (isBl b d))
  | _ => none
def isntD (d e : D) : Option D := match e with
  | .non => some (.bl (!isNon d))
  | .bl b => some (.bl (!isBl b d))
  | _ => none
def constV : V → Bool
  | .non => true
  | .bl _ => true
  | _ => false
def noTy : V → Prop
  | .ty _ => False
  | _ => True
def rIs : R2 := fun x y H Q => constV y = true ∧ noTy x ∧ Q (.bl (decide (x = y))) H
def rIsnt : R2 := fun x y H Q => constV y = true ∧ noTy x ∧ Q (.bl (!decide (x = y))) H
theorem plain_const {x y : V} {v u : Value} (h : constV y = true) (hx : noTy x) (rx : RelV x v) (ry : RelV y u) : plainIs v u = true ∧ (v == u) = decide (x = y) := by
  cases y with
  | non =>
    cases ry
    cases x with
    | non => cases rx; exact ⟨rfl, rfl⟩
    | bl _ => cases rx; exact ⟨rfl, rfl⟩
    | int _ => obtain ⟨t, rfl⟩ := rx; exact ⟨rfl, rfl⟩
    | str _ => obtain ⟨t, rfl⟩ := rx; exact ⟨rfl, rfl⟩
    | byt _ => obtain ⟨t, rfl⟩ := rx; exact ⟨rfl, rfl⟩
    | flt _ => obtain ⟨t, rfl⟩ := rx; exact ⟨rfl, rfl⟩
    | ref _ => cases rx; exact ⟨rfl, rfl⟩
    | ty _ => exact hx.elim
  | bl b =>
    cases ry
    cases x with
    | non => cases rx; exact ⟨rfl, rfl⟩
    | bl a =>
      cases rx
      refine ⟨rfl, ?_⟩
      cases a <;> cases b <;> rfl
    | int _ => obtain ⟨t, rfl⟩ := rx; exact ⟨rfl, rfl⟩
    | str _ => obtain ⟨t, rfl⟩ := rx; exact ⟨rfl, rfl⟩
    | byt _ => obtain ⟨t, rfl⟩ := rx; exact ⟨rfl, rfl⟩
    | flt _ => obtain ⟨t, rfl⟩ := rx; exact ⟨rfl, rfl⟩
    | ref _ => cases rx; exact ⟨rfl, rfl⟩
    | ty _ => exact hx.elim
  | _ => cases h
theorem op_isC : OpR X (compareOp .Is) rIs := by
  intro pins s σ H x y v u Q I rx ry h
  obtain ⟨h1, h2, q⟩ := h
  obtain ⟨p, e⟩ := plain_const h1 h2 rx ry
  exact wpAny_is_plain p (fin_bl I q e.symm)
theorem op_isntC : OpR X (compareOp .IsNot) rIsnt := by
  intro pins s σ H x y v u Q I rx ry h
  obtain ⟨h1, h2, q⟩ := h
  obtain ⟨p, e⟩ := plain_const h1 h2 rx ry
  exact wpAny_isNot_plain p (fin_bl I q (by rw [e]))
theorem rq_noty {K : PySem.W.Frag} {M : Addr → Prop} {H : Hp} {d : D} {v : V} (h : Rq K M H d v) : noTy v := by
  cases d with
  | lst ds => obtain ⟨_, a, _, rfl, _⟩ := h; trivial
  | dct ds => obtain ⟨_, a, _, rfl, _⟩ := h; trivial
  | _ => cases h <;> trivial
theorem rq_const {K : PySem.W.Frag} {M : Addr → Prop} {H : Hp} {d : D} {v : V} (h : Rq K M H d v) : (decide (v = .non) = isNon d) ∧ ∀ b : Bool, decide (v = .bl b) = isBl b d := by
  cases d with
  | lst ds => obtain ⟨_, a, _, rfl, _⟩ := h; exact ⟨rfl, fun _ => rfl⟩
  | dct ds => obtain ⟨_, a, _, rfl, _⟩ := h; exact ⟨rfl, fun _ => rfl⟩
  | bl a =>
    cases h
    refine ⟨rfl, fun b => ?_⟩
    cases a <;> cases b <;> rfl
  | _ => cases h <;> exact ⟨rfl, fun _ => rfl⟩
theorem o_is : OpE X isD rIs := by
  intro B W M H ρ σ d e z x y Q rp hx hy hf h
  obtain ⟨k1, k2⟩ := rq_const hx
  cases e with
  | non =>
    cases hf
    cases (rq_non hy)
    refine ⟨rfl, rq_noty hx, ?_⟩
    rw [k1]
    exact post_v h rp (.bl _)
  | bl b =>
    cases hf
    cases (rq_bl hy)
    refine ⟨rfl, rq_noty hx, ?_⟩
    rw [k2]
    exact post_v h rp (.bl _)
  | _ => cases hf
theorem o_isnt : OpE X isntD rIsnt := by
  intro B W M H ρ σ d e z x y Q rp hx hy hf h
  obtain ⟨k1, k2⟩ := rq_const hx
  cases e with
  | non =>
    cases hf
    cases (rq_non hy)
    refine ⟨rfl, rq_noty hx, ?_⟩
    rw [k1]
    exact post_v h rp (.bl _)
  | bl b =>
    cases hf
    cases (rq_bl hy)
    refine ⟨rfl, rq_noty hx, ?_⟩
    rw [k2]
    exact post_v h rp (.bl _)
  | _ => cases hf

/-! ### in -/
/-- one text within another -/
def inS (a b : Str) : Bool := !(Builtin.Str.occurrences b a 0 b.length 1).isEmpty
theorem inS_sign (c : Nat) (z : Str) : inS ⟨#[c]⟩ z = decide (c ∈ z.cps.toList) := PySem.StrLaws.found_one z c
def rInA (K : PySem.W.Frag) (neg : Bool) : R2 := fun x y H Q => ∃ p xs d ds, y = .ref p ∧ (SqL K H p xs ∨ SqT K H p xs) ∧ Dp K H x d ∧ DpAll K H xs ds ∧ SeqAt.shaped d = true ∧ PyData.canLayAll0 ds = true ∧ d.depth ≤ 60 ∧
  Q (.bl (if neg then !ds.any (fun z => PyData.eqv z d) else ds.any fun z => PyData.eqv z d)) H
theorem op_inA (c : Cd X) : OpR X (compareOp .In) (rInA X.K false) := by
  intro pins s σ H x y v u Q I rx ry h
  obtain ⟨p, xs, d, ds, rfl, hq, dx, dl, sx, cl, hd, q⟩ := h
  obtain ⟨as, r1⟩ := Dp.reads I d x v dx rx
  have hu : X.A.units + 1 + min (PyData.depthAll ds) d.depth < cLine := by
    have := c.units
    have h2 : min (PyData.depthAll ds) d.depth ≤ d.depth := Nat.min_le_right _ _
    omega
  rcases hq with hq | hq
  · obtain ⟨bs, r2⟩ := Dp.reads I (.list ds) (.ref p) u (.lst hq dl) ry
    exact SeqAt.in_list_reads r2 r1 cl (SeqAt.canLay_of_shaped sx) hu ⟨.bl _, H, I, rfl, q⟩
  · obtain ⟨bs, r2⟩ := Dp.reads I (.tuple ds) (.ref p) u (.tup hq dl) ry
    exact SeqAt.in_tuple_reads r2 r1 cl (SeqAt.canLay_of_shaped sx) hu ⟨.bl _, H, I, rfl, q⟩
theorem op_notInA (c : Cd X) : OpR X (compareOp .NotIn) (rInA X.K true) := by
  intro pins s σ H x y v u Q I rx ry h
  obtain ⟨p, xs, d, ds, rfl, hq, dx, dl, sx, cl, hd, q⟩ := h
  obtain ⟨as, r1⟩ := Dp.reads I d x v dx rx
  have hu : X.A.units + 1 + min (PyData.depthAll ds) d.depth < cLine := by
    have := c.units
    have h2 : min (PyData.depthAll ds) d.depth ≤ d.depth := Nat.min_le_right _ _
    omega
  rcases hq with hq | hq
  · obtain ⟨bs, r2⟩ := Dp.reads I (.list ds) (.ref p) u (.lst hq dl) ry
    exact SeqAt.notIn_list_reads r2 r1 cl (SeqAt.canLay_of_shaped sx) hu ⟨.bl _, H, I, rfl, q⟩
  · obtain ⟨bs, r2⟩ := Dp.reads I (.tuple ds) (.ref p) u (.tup hq dl) ry
    exact SeqAt.notIn_tuple_reads r2 r1 cl (SeqAt.canLay_of_shaped sx) hu ⟨.bl _, H, I, rfl, q⟩
def rInS (neg : Bool) : R2 := fun x y H Q => ∃ i j, x = .str i ∧ y = .str j ∧ Q (.bl (if neg then !inS i j else inS i j)) H
theorem op_inSt : OpR X (compareOp .In) (rInS false) := fun pins s σ H x y v u Q I rx ry h => op_in_str pins s σ H x y v u Q I rx ry h
theorem op_notInSt : OpR X (compareOp .NotIn) (rInS true) := fun pins s σ H x y v u Q I rx ry h => L2.op_notIn_str pins s σ H x y v u Q I rx ry h
/-- a key in a dict -/
def rInK (neg : Bool) : R2 := fun x y H Q => ∃ a k kvs, y = .ref a ∧ H a = some (.dK kvs) ∧ x = kV k ∧ Q (.bl (if neg then !(valV kvs k).isSome else (valV kvs k).isSome)) H
theorem op_inK (c : Cd X) : OpR X (compareOp .In) (rInK false) := by
  intro pins s σ H x y v u Q I rx ry h
  obtain ⟨a, k, kvs, rfl, ha, rfl, q⟩ := h
  cases ry
  exact d_in (by have := c.units; omega) I (DGet.k ha) rx fun s' I' => ⟨.bl _, H, I', rfl, q⟩
theorem op_notInK (c : Cd X) : OpR X (compareOp .NotIn) (rInK true) := by
  intro pins s σ H x y v u Q I rx ry h
  obtain ⟨a, k, kvs, rfl, ha, rfl, q⟩ := h
  cases ry
  exact d_notIn (by have := c.units; omega) I (DGet.k ha) rx fun s' I' => ⟨.bl _, H, I', rfl, q⟩
def rInAll (K : PySem.W.Frag) (neg : Bool) : R2 := fun x y H Q => rInA K neg x y H Q ∨ (rInS neg x y H Q ∨ rInK neg x y H Q)
theorem op_in (c : Cd X) : OpR X (compareOp .In) (rInAll X.K false) := (op_inA c).or (op_inSt.or (op_inK c))
theorem op_notIn (c : Cd X) : OpR X (compareOp .NotIn) (rInAll X.K true) := (op_notInA c).or (op_notInSt.or (op_notInK c))
def keyD : D → Option Key
  | .int i => some (.inl i)
  | .str x => some (.inr x)
  | _ => none
def lookD (kvs : List (Key × D)) (k : Key) : Option D := (kvs.find? fun kv => decide (kv.1 = k)).map (·.2)
def anyD (d : D) (ds : List D) : Bool := ds.any fun z => eqD z d
def inB (d e : D) : Option Bool := match d, e with
  | .str a, .str b => some (inS a b)
  | d, .tup ds => if okD 60 d = true ∧ okL 60 ds = true then some (anyD d ds) else none
  | d, .lst ds => if okD 60 d = true ∧ okL 60 ds = true then some (anyD d ds) else none
  | d, .dct kvs => (keyD d).map fun k => (lookD kvs k).isSome
  | _, _ => none
def inD (d e : D) : Option D := (inB d e).map .bl
def notInD (d e : D) : Option D := (inB d e).map fun b => .bl (!b)
theorem RpK.look {K : PySem.W.Frag} {M : Addr → Prop} {H : Hp} (k : Key) : ∀ {ds : List (Key × D)} {vs : List (Key × V)}, RpK K M H ds vs → match lookD ds k with
    | some d => ∃ v, valV vs k = some v ∧ Rp K M H d v
    | none => valV vs k = none
  | [], _, h => by cases h; rfl
  | (j, d) :: ds, _, h => by
    cases h with
    | @cons _ _ _ v vs h1 h2 =>
      have ih := RpK.look k h2
      unfold lookD valV at ih ⊢
      rw [List.find?_cons, List.find?_cons]
      by_cases e : j = k
      · simp only [e, decide_true]
        exact ⟨v, rfl, h1⟩
      · simp only [decide_eq_false e]
        exact ih
theorem RpK.isSome {K : PySem.W.Frag} {M : Addr → Prop} {H : Hp} {k : Key} {ds : List (Key × D)} {vs : List (Key × V)} (h : RpK K M H ds vs) : (valV vs k).isSome = (lookD ds k).isSome := by
  have q := h.look k
  cases e : lookD ds k with
  | none =>
    rw [e] at q
    rw [show valV vs k = none from q]
    rfl
  | some d =>
    rw [e] at q
    obtain ⟨v, q, _⟩ := q
    rw [q]
    rfl
theorem rq_key {K : PySem.W.Frag} {M : Addr → Prop} {H : Hp} {d : D} {v : V} {k : Key} (h : Rq K M H d v) (e : keyD d = some k) : v = kV k := by
  cases d with
  | int i => cases e; exact rq_int h
  | str x => cases e; exact (rq_str h).1
  | _ => cases e
theorem any_py (d : D) (ds : List D) : ((toPyL ds).any fun z => PyData.eqv z (toPy d)) = anyD d ds := by
  rw [toPyL_map, List.any_map]
  rfl
theorem in_some {neg : Bool} {B : Base} {W : WX} {M : Addr → Prop} {H : Hp} {ρ : Env} {σ : St} {d e : D} {b : Bool} {x y : V} {Q : V → Hp → Prop} (rp : Rep X.K B M H ρ σ) (hx : Rq X.K M H d x) (hy : Rq X.K M H e y) (hf : inB d e = some b)
    (h : Post X B W (RelE X.K) M H σ (.ok (.bl (if neg then !b else b)) ρ) Q) : rInAll X.K neg x y H Q := by
  have seq : ∀ (ds : List D) (a : Addr) (vs : List V), y = .ref a → (SqL X.K H a vs ∨ SqT X.K H a vs) → RpL X.K M H ds vs → okD 60 d = true ∧ okL 60 ds = true → b = anyD d ds → rInAll X.K neg x y H Q := by
    intro ds a vs e1 hq r hc eb
    obtain ⟨dx, cx⟩ := hx.dp hc.1
    obtain ⟨dl, cl⟩ := r.dp 60 hc.2
    refine .inl ⟨a, vs, _, _, e1, hq, dx, dl, shaped_of hc.1 (by decide) cx, cl, okD.depth 60 d hc.1, ?_⟩
    rw [any_py, ← eb]
    exact post_v h rp (.bl _)
  unfold inB at hf
  split at hf
  · cases hf
    obtain ⟨e1, _⟩ := rq_str hx
    obtain ⟨e2, _⟩ := rq_str hy
    exact .inr (.inl ⟨_, _, e1, e2, post_v h rp (.bl _)⟩)
  · split at hf
    · rename_i hc
      cases hf
      obtain ⟨a, vs, e1, _, t, r⟩ := rq_tup hy
      exact seq _ a vs e1 (.inr t) r hc rfl
    · cases hf
  · split at hf
    · rename_i hc
      cases hf
      obtain ⟨a, vs, e1, _, t, r⟩ := rq_lst hy
      exact seq _ a vs e1 (.inl (SqL.of t)) r hc rfl
    · cases hf
  · rename_i kvs _
    cases ek : keyD d with
    | none => rw [ek] at hf; cases hf
    | some k =>
      rw [ek] at hf
      cases hf
      obtain ⟨a, vs, e1, _, t, r⟩ := rq_dct hy
      refine .inr (.inr ⟨a, k, vs, e1, t, rq_key hx ek, ?_⟩)
      rw [r.isSome]
      exact post_v h rp (.bl _)
  · cases hf
theorem o_in : OpE X inD (rInAll X.K false) := by
  intro B W M H ρ σ d e z x y Q rp hx hy hf h
  unfold inD at hf
  cases eb : inB d e with
  | none => rw [eb] at hf; cases hf
  | some b =>
    rw [eb] at hf
    cases hf
    exact in_some (neg := false) rp hx hy eb h
theorem o_notIn : OpE X notInD (rInAll X.K true) := by
  intro B W M H ρ σ d e z x y Q rp hx hy hf h
  unfold notInD at hf
  cases eb : inB d e with
  | none => rw [eb] at hf; cases hf
  | some b =>
    rw [eb] at hf
    cases hf
    exact in_some (neg := true) rp hx hy eb h
end
end NV

set_option Elab.async false
set_option linter.all false
set_option maxRecDepth 100000
set_option maxHeartbeats 4000000
/-! Core3c: subscripts, slices, displays, built-in functions. -/
namespace NV
open PySem PySem.Spec PyProof.Rows L2

section
variable {X : Cx} {W : WX}
/-! ### a[b] -/
def rIxK : R2 := fun x y H Q => ∃ a k kvs v, x = .ref a ∧ H a = some (.dK kvs) ∧ y = kV k ∧ valV kvs k = some v ∧ Q v H
theorem ix_key (c : Cd X) : IxR X rIxK := by
  intro value slice pins s σ H x y v u Q I rx ry h hs
  obtain ⟨a, k, kvs, z, rfl, ha, rfl, hv, q⟩ := h
  cases rx
  have g : DGet H a (kV k) (some z) := by rw [← hv]; exact DGet.k ha
  exact tail_any (dict_typeIs I g) PySem.F.slot_dict_getitem.lookup (d_getItem (by have := c.units; omega) I g ry fun w' s' I' rw' => ⟨z, H, I', rw', q⟩) hs
def rIxAll (K : PySem.W.Frag) : R2 := fun x y H Q => rIx K x y H Q ∨ rIxK x y H Q
theorem ix_all (c : Cd X) : IxR X (rIxAll X.K) := ix_seq.or (ix_key c)
def ixD : D → D → Option D
  | .tup xs, .int i => atI xs i
  | .lst xs, .int i => atI xs i
  | .scr xs, .int i => (atI xs i).map .int
  | .str z, .int i => (atI z.cps.toList i).map fun c => .str ⟨#[c]⟩
  | .dct kvs, k => (keyD k).bind fun k => lookD kvs k
  | _, _ => none
theorem RpL.atI {K : PySem.W.Frag} {M : Addr → Prop} {H : Hp} {ds : List D} {vs : List V} {i : Int} {d : D} (h : RpL K M H ds vs) (e : atI ds i = some d) : ∃ v, L2.atI vs i = some v ∧ Rp K M H d v := by
  unfold L2.atI at e ⊢
  rw [← h.length]
  cases hj : ixN ds.length i with
  | none => rw [hj] at e; cases e
  | some j =>
    rw [hj] at e
    obtain ⟨v, q, r⟩ := h.get (i := j) e
    exact ⟨v, q, r⟩
theorem strG_one {z : Str} (g : StrG z) {i : Int} {c : Nat} (e : atI z.cps.toList i = some c) : StrG ⟨#[c]⟩ := by
  refine ⟨by show 1 ≤ sizeLine; decide, ?_⟩
  have h := g.2
  unfold PySem.PyData.strOk at h ⊢
  have hm : c ∈ z.cps.toList := by
    unfold atI at e
    cases hj : ixN z.cps.toList.length i with
    | none => rw [hj] at e; cases e
    | some j =>
      rw [hj] at e
      exact List.mem_of_getElem? e
  rw [Array.all_eq_true_iff_forall_mem] at h
  have := h c (by simpa using hm)
  simpa using this
theorem o_ix : OpE X ixD (rIxAll X.K) := by
  intro B W M H ρ σ d e z x y Q rp hx hy hf h
  unfold ixD at hf
  split at hf
  · obtain ⟨a, vs, e1, _, t, r⟩ := rq_tup hx
    obtain ⟨v, q, r'⟩ := r.atI hf
    exact .inl (.inr (.inl ⟨a, vs, _, v, e1, rq_int hy, t, q, post_v h rp r'⟩))
  · obtain ⟨a, vs, e1, _, t, r⟩ := rq_lst hx
    obtain ⟨v, q, r'⟩ := r.atI hf
    exact .inl (.inl ⟨a, vs, _, v, e1, rq_int hy, SqL.of t, q, post_v h rp r'⟩)
  · rename_i xs i
    obtain ⟨a, e1, _, t⟩ := rq_scr hx
    cases ez : L2.atI xs i with
    | none => rw [ez] at hf; cases hf
    | some n =>
      rw [ez] at hf
      cases hf
      refine .inl (.inl ⟨a, _, i, .int n, e1, rq_int hy, t.sql, ?_, post_v h rp (.int _)⟩)
      unfold L2.atI at ez ⊢
      rw [List.length_map]
      cases hj : ixN xs.length i with
      | none => rw [hj] at ez; cases ez
      | some j =>
        rw [hj] at ez
        have ez : xs[j]? = some n := ez
        show (xs.map V.int)[j]? = _
        rw [List.getElem?_map, ez]
        rfl
  · rename_i z i
    obtain ⟨e1, g⟩ := rq_str hx
    cases ez : L2.atI z.cps.toList i with
    | none => rw [ez] at hf; cases hf
    | some n =>
      rw [ez] at hf
      cases hf
      exact .inl (.inr (.inr ⟨z, i, n, e1, rq_int hy, g.1, ez, post_v h rp (.str (strG_one g ez))⟩))
  · cases ek : keyD e with
    | none => rw [ek] at hf; cases hf
    | some k =>
      rw [ek] at hf
      obtain ⟨a, vs, e1, _, t, r⟩ := rq_dct hx
      simp only [Option.bind_some] at hf
      have q := r.look k
      rw [hf] at q
      obtain ⟨v, q, r'⟩ := q
      exact .inr ⟨a, k, vs, v, e1, t, rq_key hy ek, q, post_v h rp r'⟩
  · cases hf
theorem de_ix {a b : Expr} {ma mb : RM} {pos : Pos} (c : Cd X) (ha : DR X W a ma) (hb : DR X W b mb) (hs : PlainIx b := by exact fun _ _ => rfl) : DE X W (.Subscript a b pos) (eOp2 ixD ma mb) := by
  obtain ⟨ta, pa, sa⟩ := ha
  obtain ⟨tb, pb, sb⟩ := hb
  exact ⟨_, pe_ix (ix_all c) pa pb hs, op2_sat sa sb fun B M H ρ σ d e z x y Q h1 h2 h3 h4 h5 => o_ix B W M H ρ σ d e z x y Q h1 h2 h3 h4 h5⟩

/-! ### slices -/
/-- a slice's part -/
def DO (X : Cx) (W : WX) (e : Option Expr) (m : Env → Res (Option Int)) : Prop := ∃ t, PO X e t ∧ Sat X W (fun _ _ => fun _ _ _ (a b : Option Int) => a = b) t m
def oNo : Env → Res (Option Int) := fun ρ => .ok none ρ
def asI (d : D) (ρ : Env) : Res (Option Int) := match d with
  | .int i => .ok (some i) ρ
  | _ => .bad
def oSome (m : EM) : Env → Res (Option Int) := fun ρ => (m ρ).bind asI
theorem do_none : DO X W none oNo := ⟨_, po_none, fun B M H ρ σ Q rp k => k M H none Ext.refl rp rfl⟩
theorem do_some {e : Expr} {m : EM} (h : DE X W e m) : DO X W (some e) (oSome m) := by
  obtain ⟨t, p, s⟩ := h
  refine ⟨_, po_some p, fun B M H ρ σ Q rp k => s B M H ρ σ _ rp (Post.seq k fun d ρ1 M1 H1 v x1 r1 q1 k1 => ?_)⟩
  cases d with
  | int i =>
    cases q1
    exact ⟨i, rfl, k1 M1 H1 _ Ext.refl r1 rfl⟩
  | _ => exact k1.elim
def cutL {α : Type} (xs : List α) (lo hi : Option Int) : List α := (xs.drop (HT.sIx xs.length 0 lo)).take (HT.sIx xs.length xs.length hi - HT.sIx xs.length 0 lo)
def slD (d : D) (lo hi : Option Int) : Option D := match d with
  | .tup xs => some (.tup (cutL xs lo hi))
  | .lst xs => some (.lst (cutL xs lo hi))
  | .scr xs => some (.lst ((cutL xs lo hi).map .int))
  | .str z => some (.str (cutS z lo hi))
  | _ => none
def rSlAll (K : PySem.W.Frag) : V → Option Int → Option Int → Hp → VK → Prop := fun x lo hi H Q => rSlL K x lo hi H Q ∨ (rSlA K x lo hi H Q ∨ rSlS x lo hi H Q)
theorem sl_all : SlR X (rSlAll X.K) := sl_list.or (sl_tupA.or sl_str)
theorem cut_whole {α : Type} {xs : List α} {lo hi : Option Int} (h : HT.sIx xs.length 0 lo = 0 ∧ HT.sIx xs.length xs.length hi = xs.length) : cutL xs lo hi = xs := by
  unfold cutL
  rw [h.1, h.2]
  simp
theorem cutL_length {α : Type} (xs : List α) (lo hi : Option Int) : (cutL xs lo hi).length ≤ xs.length := by
  unfold cutL
  rw [List.length_take, List.length_drop]
  omega
theorem RpL.cut {K : PySem.W.Frag} {M : Addr → Prop} {H : Hp} {ds : List D} {vs : List V} (h : RpL K M H ds vs) (lo hi : Option Int) : RpL K M H (cutL ds lo hi) (cutV vs lo hi) := by
  unfold cutL cutV
  rw [← h.length]
  exact (h.drop _).take _
theorem cutL_map {α β : Type} (f : α → β) (xs : List α) (lo hi : Option Int) : cutL (xs.map f) lo hi = (cutL xs lo hi).map f := by
  unfold cutL
  rw [List.length_map, List.map_take, List.map_drop]
theorem rpL_ints {K : PySem.W.Frag} {M : Addr → Prop} {H : Hp} : ∀ xs : List Int, RpL K M H (xs.map D.int) (xs.map V.int)
  | [] => .nil
  | x :: xs => .cons (.int x) (rpL_ints xs)
theorem strG_sub {z y : Str} (g : StrG z) (hl : y.cps.toList.length ≤ z.cps.toList.length) (hm : ∀ c ∈ y.cps.toList, c ∈ z.cps.toList) : StrG y := by
  refine ⟨?_, ?_⟩
  · have h : z.cps.size ≤ sizeLine := g.1
    show y.cps.size ≤ sizeLine
    rw [Array.length_toList, Array.length_toList] at hl
    exact Nat.le_trans hl h
  · have h := g.2
    unfold PySem.PyData.strOk at h ⊢
    rw [Array.all_eq_true_iff_forall_mem] at h ⊢
    exact fun x hx => h x (Array.mem_def.mpr (hm x (Array.mem_def.mp hx)))
theorem strG_cut {z : Str} (g : StrG z) (lo hi : Option Int) : StrG (cutS z lo hi) := by
  refine strG_sub g (by rw [Array.length_toList, Array.length_toList]; exact cutS_length z lo hi) fun c hc => ?_
  unfold cutS at hc
  exact List.mem_of_mem_drop (List.mem_of_mem_take (by simpa using hc))
/-- a[lo:hi] -/
def eSl (m : RM) (lo hi : Env → Res (Option Int)) : EM := fun ρ => (m ρ).bind fun x ρ1 => (lo ρ1).bind fun l ρ2 => (hi ρ2).bind fun h ρ3 => (ofO (x.get ρ3) ρ3).bind fun d _ => ofO (slD d l h) ρ3
theorem sl_sat {te : TE} {tl th : TO} {m : RM} {lo hi : Env → Res (Option Int)} {R : Base → St → (Addr → Prop) → Hp → Env → D → V → Prop} {r : V → Option Int → Option Int → Hp → VK → Prop} {f : D → Option Int → Option Int → Option D}
    (s : Sat X W (fun _ σ => RelR X.K σ) te m) (sl : Sat X W (fun _ _ => fun _ _ _ (a b : Option Int) => a = b) tl lo) (sh : Sat X W (fun _ _ => fun _ _ _ (a b : Option Int) => a = b) th hi)
    (h : ∀ (B : Base) (M : Addr → Prop) (H : Hp) (ρ : Env) (σ : St) (d z : D) (l u : Option Int) (x : V) (Q : V → Hp → Prop), Rep X.K B M H ρ σ → Rq X.K M H d x → f d l u = some z → Post X B W (R B σ) M H σ (.ok z ρ) Q → r x l u H Q) :
    Sat X W R (tSl r te tl th) (fun ρ => (m ρ).bind fun x ρ1 => (lo ρ1).bind fun l ρ2 => (hi ρ2).bind fun h ρ3 => (ofO (x.get ρ3) ρ3).bind fun d _ => ofO (f d l h) ρ3) := by
  intro B M H ρ σ Q rp k
  refine s B M H ρ σ _ rp (Post.seq k fun x ρ1 M1 H1 v x1 r1 q1 k1 => ?_)
  refine sl B M1 H1 ρ1 σ _ r1 (Post.seq k1 fun l ρ2 M2 H2 l' x2 r2 q2 k2 => ?_)
  cases q2
  refine sh B M2 H2 ρ2 σ _ r2 (Post.seq k2 fun u ρ3 M3 H3 u' x3 r3 q3 k3 => ?_)
  cases q3
  cases ex : x.get ρ3 with
  | none => rw [ex] at k3; exact k3.elim
  | some d =>
    rw [ex] at k3
    cases ez : f d l u with
    | none => simp only [ofO, Res.bind, ez] at k3; exact k3.elim
    | some z =>
      simp only [ofO, Res.bind, ez] at k3
      exact h B M3 H3 ρ3 σ d z l u v Q r3 (q1.rq (x2.trans x3) r3 ex) ez k3
theorem de_sl {e : Expr} {lo hi : Option Expr} {m : RM} {ml mh : Env → Res (Option Int)} {p2 pos : Pos} (he : DR X W e m) (hl : DO X W lo ml) (hh : DO X W hi mh) : DE X W (.Subscript e (.Slice lo hi none p2) pos) (eSl m ml mh) := by
  obtain ⟨t, p, s⟩ := he
  obtain ⟨tl, pl, sl⟩ := hl
  obtain ⟨th, ph, sh⟩ := hh
  refine ⟨_, pe_slice sl_all p pl ph, sl_sat (f := slD) s sl sh fun B M H ρ σ d z l u x Q rp hx hf k => ?_⟩
  unfold slD at hf
  split at hf
  · cases hf
    obtain ⟨a, vs, e1, l1, t1, r1⟩ := rq_tup hx
    refine .inr (.inl ⟨a, vs, e1, t1, fun hw => ?_, fun _ p hp => post_t k rp (r1.cut l u) (Nat.le_trans (cutL_length _ _ _) l1) hp⟩)
    rw [← r1.length] at hw
    rw [cut_whole hw] at k
    exact post_v k rp (.tup l1 t1 r1)
  · cases hf
    obtain ⟨a, vs, e1, l1, t1, r1⟩ := rq_lst hx
    exact .inl ⟨a, vs, e1, SqL.of t1, fun p hp => post_l k rp (r1.cut l u) (Nat.le_trans (cutL_length _ _ _) l1) hp⟩
  · cases hf
    rename_i xs
    obtain ⟨a, e1, l1, t1⟩ := rq_scr hx
    refine .inl ⟨a, _, e1, t1.sql, fun p hp => ?_⟩
    have q := post_l k rp (vs := (cutL xs l u).map V.int) (p := p) (rpL_ints _) (by rw [List.length_map]; exact Nat.le_trans (cutL_length _ _ _) l1) hp
    rw [← cutL_map] at q
    exact q
  · cases hf
    obtain ⟨e1, g⟩ := rq_str hx
    exact .inr (.inr ⟨_, e1, g.1, post_v k rp (.str (strG_cut g l u))⟩)
  · cases hf
/-- .. of a list, the new list owned -/
def slF (d : D) (lo hi : Option Int) : Option D := match d with
  | .lst xs => some (.lst (cutL xs lo hi))
  | _ => none
def eSlF (m : RM) (lo hi : Env → Res (Option Int)) : EM := fun ρ => (m ρ).bind fun x ρ1 => (lo ρ1).bind fun l ρ2 => (hi ρ2).bind fun h ρ3 => (ofO (x.get ρ3) ρ3).bind fun d _ => ofO (slF d l h) ρ3
theorem df_sl {e : Expr} {lo hi : Option Expr} {m : RM} {ml mh : Env → Res (Option Int)} {p2 pos : Pos} (he : DR X W e m) (hl : DO X W lo ml) (hh : DO X W hi mh) : DF X W (.Subscript e (.Slice lo hi none p2) pos) (eSlF m ml mh) := by
  obtain ⟨t, p, s⟩ := he
  obtain ⟨tl, pl, sl⟩ := hl
  obtain ⟨th, ph, sh⟩ := hh
  refine ⟨_, pe_slice sl_list p pl ph, sl_sat (R := fun B σ => RelF X.K B σ) (f := slF) s sl sh fun B M H ρ σ d z l u x Q rp hx hf k => ?_⟩
  unfold slF at hf
  split at hf
  · cases hf
    obtain ⟨a, vs, e1, l1, t1, r1⟩ := rq_lst hx
    exact ⟨a, vs, e1, SqL.of t1, fun p hp => post_o k rp (r1.cut l u) (Nat.le_trans (cutL_length _ _ _) l1) hp⟩
  · cases hf

/-! ### displays -/
abbrev RelL (K : PySem.W.Frag) : (Addr → Prop) → Hp → Env → List D → List V → Prop := fun M H _ ds vs => RpL K M H ds vs
def DL (X : Cx) (W : WX) (es : List Expr) (m : Env → Res (List D)) : Prop := ∃ t, PA X es t ∧ Sat X W (fun _ _ => RelL X.K) t m
def lNil : Env → Res (List D) := fun ρ => .ok [] ρ
def lCons (m : EM) (ms : Env → Res (List D)) : Env → Res (List D) := fun ρ => (m ρ).bind fun d ρ1 => (ms ρ1).bind fun ds ρ2 => .ok (d :: ds) ρ2
theorem dl_nil : DL X W [] lNil := ⟨_, pa_nil, fun B M H ρ σ Q rp k => k M H [] Ext.refl rp .nil⟩
theorem dl_cons {e : Expr} {es : List Expr} {m : EM} {ms : Env → Res (List D)} (h : DE X W e m) (hs : DL X W es ms) (ha : starEach (e :: es) X.env = (false, eval e X.env) :: starEach es X.env := by rfl) : DL X W (e :: es) (lCons m ms) := by
  obtain ⟨t, p, s⟩ := h
  obtain ⟨ts, ps, ss⟩ := hs
  refine ⟨_, pa_cons p ps ha, fun B M H ρ σ Q rp k => s B M H ρ σ _ rp (Post.seq k fun d ρ1 M1 H1 v x1 r1 q1 k1 => ?_)⟩
  refine ss B M1 H1 ρ1 σ _ r1 (Post.seq k1 fun ds ρ2 M2 H2 vs x2 r2 q2 k2 => ?_)
  exact k2 M2 H2 _ Ext.refl r2 (.cons (Rp.ext x2 q1) q2)
def eTup (m : Env → Res (List D)) : EM := fun ρ => (m ρ).bind fun ds ρ1 => if ds.length ≤ sizeLine then .ok (.tup ds) ρ1 else .bad
def eLst (m : Env → Res (List D)) : EM := fun ρ => (m ρ).bind fun ds ρ1 => if ds.length ≤ sizeLine then .ok (.lst ds) ρ1 else .bad
theorem de_tup {es : List Expr} {m : Env → Res (List D)} {x1 pos} (h : DL X W es m) : DE X W (.Tuple es x1 pos) (eTup m) := by
  obtain ⟨t, p, s⟩ := h
  refine ⟨_, pe_tup p, fun B M H ρ σ Q rp k => s B M H ρ σ _ rp (Post.seq k fun ds ρ1 M1 H1 vs x1 r1 q1 k1 => ?_)⟩
  split at k1
  · rename_i hl
    exact ⟨by rw [← q1.length]; exact hl, fun p hp => post_t k1 r1 q1 hl hp⟩
  · exact k1.elim
theorem df_lst {es : List Expr} {m : Env → Res (List D)} {pos} (h : DL X W es m) : DF X W (.List es pos) (eLst m) := by
  obtain ⟨t, p, s⟩ := h
  refine ⟨_, pe_lst p, fun B M H ρ σ Q rp k => s B M H ρ σ _ rp (Post.seq k fun ds ρ1 M1 H1 vs x1 r1 q1 k1 => ?_)⟩
  split at k1
  · rename_i hl
    exact ⟨by rw [← q1.length]; exact hl, fun p hp => post_o k1 r1 q1 hl hp⟩
  · exact k1.elim
theorem df_dnew {pos} : DF X W (.Dict [] [] pos) (eC (.dct [])) :=
  ⟨_, pe_dnewK, fun B M H ρ σ Q rp k p hp => post_od k rp .nil (Nat.zero_le _) hp⟩

/-! ### built-in functions -/
def aNil : AM := fun ρ => .ok [] ρ
def aCons (m : RM) (ms : AM) : AM := fun ρ => (m ρ).bind fun d ρ1 => (ms ρ1).bind fun ds ρ2 => .ok (d :: ds) ρ2
theorem da_nil : DA X W [] aNil := ⟨_, pa_nil, fun B M H ρ σ Q rp k => k M H [] Ext.refl rp .nil⟩
theorem da_cons {e : Expr} {es : List Expr} {m : RM} {ms : AM} (h : DR X W e m) (hs : DA X W es ms) (ha : starEach (e :: es) X.env = (false, eval e X.env) :: starEach es X.env := by rfl) : DA X W (e :: es) (aCons m ms) := by
  obtain ⟨t, p, s⟩ := h
  obtain ⟨ts, ps, ss⟩ := hs
  refine ⟨_, pa_cons p ps ha, fun B M H ρ σ Q rp k => s B M H ρ σ _ rp (Post.seq k fun d ρ1 M1 H1 v x1 r1 q1 k1 => ?_)⟩
  refine ss B M1 H1 ρ1 σ _ r1 (Post.seq k1 fun ds ρ2 M2 H2 vs x2 r2 q2 k2 => ?_)
  exact k2 M2 H2 _ Ext.refl r2 (.cons (RelR.ext x2 q1) q2)
def getAll (ρ : Env) : List RV → Option (List D)
  | [] => some []
  | r :: rs => match r.get ρ, getAll ρ rs with
    | some d, some ds => some (d :: ds)
    | _, _ => none
def eCallB (f : List D → Option D) (ma : AM) : EM := fun ρ => (ma ρ).bind fun rs ρ1 => (ofO (getAll ρ1 rs) ρ1).bind fun ds _ => ofO (f ds) ρ1
/-- what a built-in's rule asks is served by f -/
def CallE (X : Cx) (f : List D → Option D) (r : List V → Hp → VK → Prop) : Prop :=
  ∀ (B : Base) (W : WX) (M : Addr → Prop) (H : Hp) (ρ : Env) (σ : St) (ds : List D) (z : D) (xs : List V) (Q : V → Hp → Prop), Rep X.K B M H ρ σ → Paired (Rq X.K M H) ds xs → f ds = some z → Post X B W (RelE X.K) M H σ (.ok z ρ) Q → r xs H Q
def CallF (X : Cx) (f : List D → Option D) (r : List V → Hp → VK → Prop) : Prop :=
  ∀ (B : Base) (W : WX) (M : Addr → Prop) (H : Hp) (ρ : Env) (σ : St) (ds : List D) (z : D) (xs : List V) (Q : V → Hp → Prop), Rep X.K B M H ρ σ → Paired (Rq X.K M H) ds xs → f ds = some z → Post X B W (RelF X.K B σ) M H σ (.ok z ρ) Q → r xs H Q
theorem rqs_of {B : Base} {M : Addr → Prop} {H : Hp} {ρ ρ' : Env} {σ : St} (rp : Rep X.K B M H ρ σ) : ∀ {rs : List RV} {vs : List V} {ds : List D}, Paired (fun r v => RelR X.K σ M H ρ' r v) rs vs → getAll ρ rs = some ds → Paired (Rq X.K M H) ds vs
  | [], _, ds, h, e => by cases h; cases e; exact .nil
  | r :: rs, _, ds, h, e => by
    cases h with
    | cons h1 h2 =>
      unfold getAll at e
      cases e1 : r.get ρ with
      | none => rw [e1] at e; cases e
      | some d =>
        rw [e1] at e
        cases e2 : getAll ρ rs with
        | none => rw [e2] at e; cases e
        | some ds' =>
          rw [e2] at e
          cases e
          exact .cons (RelR.rq (ρ := ρ') h1 Ext.refl rp e1) (rqs_of rp h2 e2)
theorem callB_sat {ta : TA} {ma : AM} {f : List D → Option D} {r : List V → Hp → VK → Prop} {R : Base → St → (Addr → Prop) → Hp → Env → D → V → Prop} (s : Sat X W (fun _ σ => RelA X.K σ) ta ma)
    (h : ∀ (B : Base) (M : Addr → Prop) (H : Hp) (ρ : Env) (σ : St) (ds : List D) (z : D) (xs : List V) (Q : V → Hp → Prop), Rep X.K B M H ρ σ → Paired (Rq X.K M H) ds xs → f ds = some z → Post X B W (R B σ) M H σ (.ok z ρ) Q → r xs H Q) :
    Sat X W R (tCB r ta) (eCallB f ma) := by
  intro B M H ρ σ Q rp k
  refine s B M H ρ σ _ rp (Post.seq k fun rs ρ1 M1 H1 vs x1 r1 q1 k1 => ?_)
  cases eg : getAll ρ1 rs with
  | none => rw [eg] at k1; exact k1.elim
  | some ds =>
    rw [eg] at k1
    cases ez : f ds with
    | none => simp only [ofO, Res.bind, ez] at k1; exact k1.elim
    | some z =>
      simp only [ofO, Res.bind, ez] at k1
      exact h B M1 H1 ρ1 σ ds z vs Q r1 (rqs_of r1 q1 eg) ez k1
variable {x : Str} {p pos : Pos} {e : Expr} {es : List Expr} {ma : AM} {f : List D → Option D} {r : List V → Hp → VK → Prop} {id : String}
theorem de_callB (hc : CallR X (.builtin id) r) (hf : CallE X f r) (hg : Gl X x) (hm : X.mg x = none) (hv : bootBuiltins x = some (.builtin id)) (ha : DA X W (e :: es) ma) (hn : x ≠ "__name__" := by decide) (hdb : (x == ("__debug__" : Str)) = false := by decide)
    (he : starEach (e :: es) X.env = (false, eval e X.env) :: starEach es X.env := by rfl) (hpl : (backTo pos (starEach es X.env)).any (·.1) = false := by rfl) : DE X W (.Call (.Name x p) (e :: es) [] pos) (eCallB f ma) := by
  obtain ⟨t, pt, s⟩ := ha
  exact ⟨_, pe_callB hc hg hm hv pt hn hdb he hpl, callB_sat s fun B M H ρ σ ds z xs Q h1 h2 h3 h4 => hf B W M H ρ σ ds z xs Q h1 h2 h3 h4⟩
theorem df_callB (hc : CallR X (.builtin id) r) (hf : CallF X f r) (hg : Gl X x) (hm : X.mg x = none) (hv : bootBuiltins x = some (.builtin id)) (ha : DA X W (e :: es) ma) (hn : x ≠ "__name__" := by decide) (hdb : (x == ("__debug__" : Str)) = false := by decide)
    (he : starEach (e :: es) X.env = (false, eval e X.env) :: starEach es X.env := by rfl) (hpl : (backTo pos (starEach es X.env)).any (·.1) = false := by rfl) : DF X W (.Call (.Name x p) (e :: es) [] pos) (eCallB f ma) := by
  obtain ⟨t, pt, s⟩ := ha
  exact ⟨_, pe_callB hc hg hm hv pt hn hdb he hpl, callB_sat (R := fun B σ => RelF X.K B σ) s fun B M H ρ σ ds z xs Q h1 h2 h3 h4 => hf B W M H ρ σ ds z xs Q h1 h2 h3 h4⟩
theorem de_callT (hc : CallR X (.type id) r) (hf : CallE X f r) (hg : Gl X x) (hm : X.mg x = none) (hv : bootBuiltins x = some (.type id)) (ha : DA X W (e :: es) ma) (hn : x ≠ "__name__" := by decide) (hdb : (x == ("__debug__" : Str)) = false := by decide)
    (he : starEach (e :: es) X.env = (false, eval e X.env) :: starEach es X.env := by rfl) (hpl : (backTo pos (starEach es X.env)).any (·.1) = false := by rfl) : DE X W (.Call (.Name x p) (e :: es) [] pos) (eCallB f ma) := by
  obtain ⟨t, pt, s⟩ := ha
  exact ⟨_, pe_callTy hc hg hm hv pt hn hdb he hpl, callB_sat s fun B M H ρ σ ds z xs Q h1 h2 h3 h4 => hf B W M H ρ σ ds z xs Q h1 h2 h3 h4⟩
theorem df_callT (hc : CallR X (.type id) r) (hf : CallF X f r) (hg : Gl X x) (hm : X.mg x = none) (hv : bootBuiltins x = some (.type id)) (ha : DA X W (e :: es) ma) (hn : x ≠ "__name__" := by decide) (hdb : (x == ("__debug__" : Str)) = false := by decide)
    (he : starEach (e :: es) X.env = (false, eval e X.env) :: starEach es X.env := by rfl) (hpl : (backTo pos (starEach es X.env)).any (·.1) = false := by rfl) : DF X W (.Call (.Name x p) (e :: es) [] pos) (eCallB f ma) := by
  obtain ⟨t, pt, s⟩ := ha
  exact ⟨_, pe_callTy hc hg hm hv pt hn hdb he hpl, callB_sat (R := fun B σ => RelF X.K B σ) s fun B M H ρ σ ds z xs Q h1 h2 h3 h4 => hf B W M H ρ σ ds z xs Q h1 h2 h3 h4⟩
end
end NV

set_option Elab.async false
set_option linter.all false
set_option maxRecDepth 100000
set_option maxHeartbeats 4000000
/-! Core4: statements, targets, loops, comprehensions. -/
namespace NV
open PySem PySem.Spec PyProof.Rows L2

inductive Out where
  | nx (ρ : Env)
  | rt (d : D) (ρ : Env)
  /-- a new list is handed back -/
  | rtF (d : D) (ρ : Env)
  | bk (ρ : Env)
  | ct (ρ : Env)
  | exc (x : Exn) (ρ : Env)
  | bad
abbrev SM := Env → Out
def Out.seq : Out → SM → Out
  | .nx ρ, f => f ρ
  | o, _ => o
def Res.out {α : Type} : Res α → (α → Env → Out) → Out
  | .ok a ρ, f => f a ρ
  | .exc x ρ, _ => .exc x ρ
  | .bad, _ => .bad
theorem seq_nx (ρ : Env) (f : SM) : (Out.nx ρ).seq f = f ρ := rfl
theorem seq_rt (d : D) (ρ : Env) (f : SM) : (Out.rt d ρ).seq f = .rt d ρ := rfl
theorem seq_rtF (d : D) (ρ : Env) (f : SM) : (Out.rtF d ρ).seq f = .rtF d ρ := rfl
theorem seq_bk (ρ : Env) (f : SM) : (Out.bk ρ).seq f = .bk ρ := rfl
theorem seq_ct (ρ : Env) (f : SM) : (Out.ct ρ).seq f = .ct ρ := rfl
theorem seq_exc (x : Exn) (ρ : Env) (f : SM) : (Out.exc x ρ).seq f = .exc x ρ := rfl
theorem seq_bad (f : SM) : Out.bad.seq f = .bad := rfl
theorem out_ok {α : Type} (a : α) (ρ : Env) (f : α → Env → Out) : (Res.ok a ρ).out f = f a ρ := rfl
theorem out_exc {α : Type} (x : Exn) (ρ : Env) (f : α → Env → Out) : (Res.exc x ρ).out f = .exc x ρ := rfl
theorem out_bad {α : Type} (f : α → Env → Out) : (Res.bad).out f = .bad := rfl

def PostS (X : Cx) (B : Base) (W : WX) (M : Addr → Prop) (H : Hp) (o : Out) (E : Ends) : Prop := match o with
  | .nx ρ => ∀ (M' : Addr → Prop) (H' : Hp) (σ' : St), Ext M H M' H' → Rep X.K B M' H' ρ σ' → E.nx σ' H'
  | .rt d ρ => ∀ (M' : Addr → Prop) (H' : Hp) (σ' : St) (v : V), Ext M H M' H' → Rep X.K B M' H' ρ σ' → Rp X.K M' H' d v → E.rt v H'
  | .rtF d ρ => ∀ (M' : Addr → Prop) (H' : Hp) (σ' : St) (v : V), Ext M H M' H' → Rep X.K B M' H' ρ σ' → RelF X.K B σ' M' H' ρ d v → E.rt v H'
  | .bk ρ => ∀ (M' : Addr → Prop) (H' : Hp) (σ' : St), Ext M H M' H' → Rep X.K B M' H' ρ σ' → E.bk σ' H'
  | .ct ρ => ∀ (M' : Addr → Prop) (H' : Hp) (σ' : St), Ext M H M' H' → Rep X.K B M' H' ρ σ' → E.ct σ' H'
  | .exc x ρ => ∀ (M' : Addr → Prop) (H' : Hp) (σ' : St) (c : Value) (dx : Option Addr), Ext M H M' H' → Rep X.K B M' H' ρ σ' → ExR X.K X.mg M' H' x c dx → W c dx σ' H'
  | .bad => False

section
variable {X : Cx} {W : WX} {B : Base} {M M' : Addr → Prop} {H H' : Hp}
theorem PostS.shift {o : Out} {E : Ends} (e : Ext M H M' H') (h : PostS X B W M H o E) : PostS X B W M' H' o E := by
  cases o with
  | nx ρ => exact fun M2 H2 s2 e2 r2 => h M2 H2 s2 (e.trans e2) r2
  | rt d ρ => exact fun M2 H2 s2 v e2 r2 q => h M2 H2 s2 v (e.trans e2) r2 q
  | rtF d ρ => exact fun M2 H2 s2 v e2 r2 q => h M2 H2 s2 v (e.trans e2) r2 q
  | bk ρ => exact fun M2 H2 s2 e2 r2 => h M2 H2 s2 (e.trans e2) r2
  | ct ρ => exact fun M2 H2 s2 e2 r2 => h M2 H2 s2 (e.trans e2) r2
  | exc x ρ => exact fun M2 H2 s2 c dx e2 r2 q => h M2 H2 s2 c dx (e.trans e2) r2 q
  | bad => exact h
/-- an expression's result, then a statement's -/
theorem PostS.out {α β : Type} {R : (Addr → Prop) → Hp → Env → α → β → Prop} {σ : St} {r : Res α} {f : α → Env → Out} {E : Ends} {Q1 : β → Hp → Prop} (h : PostS X B W M H (r.out f) E)
    (k : ∀ a ρ' M' H' b, Ext M H M' H' → Rep X.K B M' H' ρ' σ → R M' H' ρ' a b → PostS X B W M' H' (f a ρ') E → Q1 b H') : Post X B W R M H σ r Q1 := by
  cases r with
  | ok a ρ => exact fun M2 H2 b e2 r2 q => k a ρ M2 H2 b e2 r2 q (PostS.shift e2 h)
  | exc x ρ => exact fun M2 H2 c dx e2 r2 q => h M2 H2 σ c dx e2 r2 q
  | bad => exact h
theorem PostS.seq {o : Out} {f : SM} {E : Ends} {nx : St → Hp → Prop} (h : PostS X B W M H (o.seq f) E)
    (k : ∀ ρ' M' H' σ', Ext M H M' H' → Rep X.K B M' H' ρ' σ' → PostS X B W M' H' (f ρ') E → nx σ' H') : PostS X B W M H o { E with nx := nx } := by
  cases o with
  | nx ρ => exact fun M2 H2 s2 e2 r2 => k ρ M2 H2 s2 e2 r2 (PostS.shift e2 h)
  | rt d ρ => exact h
  | rtF d ρ => exact h
  | bk ρ => exact h
  | ct ρ => exact h
  | exc x ρ => exact h
  | bad => exact h
end

def SatS (X : Cx) (W : WX) (t : TS) (m : SM) : Prop :=
  ∀ (B : Base) (M : Addr → Prop) (H : Hp) (ρ : Env) (σ : St) (E : Ends), Rep X.K B M H ρ σ → PostS X B W M H (m ρ) E → t E σ H
def DS (X : Cx) (W : WX) (s : Stmt) (m : SM) : Prop := ∃ t, PS X s t ∧ SatS X W t m
def DSs (X : Cx) (W : WX) (s : List Stmt) (m : SM) : Prop := ∃ t, PSs X s t ∧ SatS X W t m

section
variable {X : Cx} {W : WX} {st : Stmt} {rest : List Stmt} {e : Expr} {pos : Pos}
def sNil : SM := fun ρ => .nx ρ
def sSeq (a b : SM) : SM := fun ρ => (a ρ).seq b
theorem dss_nil : DSs X W [] sNil := ⟨_, pss_nil, fun B M H ρ σ E r h => h M H σ Ext.refl r⟩
theorem dss_cons {a b : SM} (h1 : DS X W st a) (h2 : DSs X W rest b) : DSs X W (st :: rest) (sSeq a b) := by
  obtain ⟨t, p, s⟩ := h1
  obtain ⟨u, q, s'⟩ := h2
  exact ⟨_, pss_cons p q, fun B M H ρ σ E r h => s B M H ρ σ _ r (PostS.seq h fun ρ' M' H' σ' _ r' k => s' B M' H' ρ' σ' E r' k)⟩
theorem dss_one {a : SM} (h1 : DS X W st a) : DSs X W [st] a := by
  obtain ⟨t, p, s⟩ := h1
  exact ⟨_, pss_one p, s⟩
theorem ds_pass : DS X W (.Pass pos) sNil := ⟨_, ps_pass, fun B M H ρ σ E r h => h M H σ Ext.refl r⟩
/-- a ghost step: slot i is owned no more -/
def sFrz (i : Nat) (m : SM) : SM := fun ρ => match ρ[i]? with
  | some (.o d) => m (ρ.set i (.v d))
  | _ => .bad
theorem dss_frz (i : Nat) {m : SM} (h : DSs X W rest m) : DSs X W rest (sFrz i m) := by
  obtain ⟨t, p, s⟩ := h
  refine ⟨t, p, fun B M H ρ σ E r h => ?_⟩
  unfold sFrz at h
  split at h
  · rename_i d hd
    obtain ⟨M', sub, r'⟩ := r.frz hd
    exact s B M' H _ σ E r' (PostS.shift (Ext.sub sub) h)
  · exact h.elim
theorem ds_frz (i : Nat) {m : SM} (h : DS X W st m) : DS X W st (sFrz i m) := by
  obtain ⟨t, p, s⟩ := h
  refine ⟨t, p, fun B M H ρ σ E r h => ?_⟩
  unfold sFrz at h
  split at h
  · rename_i d hd
    obtain ⟨M', sub, r'⟩ := r.frz hd
    exact s B M' H _ σ E r' (PostS.shift (Ext.sub sub) h)
  · exact h.elim
def sSet (i : Nat) (m : EM) : SM := fun ρ => (m ρ).out fun d ρ1 => .nx (ρ1.set i (.v d))
def sSetO (i : Nat) (m : EM) : SM := fun ρ => (m ρ).out fun d ρ1 => .nx (ρ1.set i (.o d))
theorem ds_set {i : Nat} {x : Str} {m : EM} {pos' : Pos} (hN : X.N.Nodup) (hi : X.N[i]? = some x) (hx : Loc X.env.scope x) (h : DE X W e m) (hs : swapsWith e (some (.Name x pos')) pos.line X.env = pure false := by rfl) (hf : X.fn x = true ∨ X.env.scope.names.lookup x = some .local := by first | exact .inl rfl | exact .inr rfl | assumption) :
    DS X W (.Assign [.Name x pos'] e pos) (sSet i m) := by
  obtain ⟨t, p, s⟩ := h
  exact ⟨_, ps_set hN hi hx p hs hf, fun B M H ρ σ E r h => s B M H ρ σ _ r (PostS.out h fun d ρ1 M1 H1 v x1 r1 q1 k1 => k1 M1 H1 _ Ext.refl (r1.setV i q1))⟩
theorem ds_setO {i : Nat} {x : Str} {m : EM} {pos' : Pos} (hN : X.N.Nodup) (hi : X.N[i]? = some x) (hx : Loc X.env.scope x) (h : DF X W e m) (hs : swapsWith e (some (.Name x pos')) pos.line X.env = pure false := by rfl) (hf : X.fn x = true ∨ X.env.scope.names.lookup x = some .local := by first | exact .inl rfl | exact .inr rfl | assumption) :
    DS X W (.Assign [.Name x pos'] e pos) (sSetO i m) := by
  obtain ⟨t, p, s⟩ := h
  refine ⟨_, ps_set hN hi hx p hs hf, fun B M H ρ σ E r h => s B M H ρ σ _ r (PostS.out (R := RelF X.K B σ) h fun d ρ1 M1 H1 v x1 r1 q1 k1 => ?_)⟩
  obtain ⟨a, rfl, w, hb, an, np⟩ := q1
  exact k1 M1 H1 _ Ext.refl (r1.setO i w hb an np)
def sRet (m : EM) : SM := fun ρ => (m ρ).out fun d ρ1 => .rt d ρ1
def sRetF (m : EM) : SM := fun ρ => (m ρ).out fun d ρ1 => .rtF d ρ1
def sRetN : SM := fun ρ => .rt .non ρ
theorem ds_ret {m : EM} (h : DE X W e m) : DS X W (.Return (some e) pos) (sRet m) := by
  obtain ⟨t, p, s⟩ := h
  exact ⟨_, ps_ret p, fun B M H ρ σ E r h => s B M H ρ σ _ r (PostS.out h fun d ρ1 M1 H1 v x1 r1 q1 k1 => k1 M1 H1 _ v Ext.refl r1 q1)⟩
theorem ds_retF {m : EM} (h : DF X W e m) : DS X W (.Return (some e) pos) (sRetF m) := by
  obtain ⟨t, p, s⟩ := h
  exact ⟨_, ps_ret p, fun B M H ρ σ E r h => s B M H ρ σ _ r (PostS.out (R := RelF X.K B σ) h fun d ρ1 M1 H1 v x1 r1 q1 k1 => k1 M1 H1 _ v Ext.refl r1 q1)⟩
theorem ds_retN : DS X W (.Return none pos) sRetN := ⟨_, ps_retN, fun B M H ρ σ E r h => h M H σ _ Ext.refl r .non⟩
def sIf (c : TM) (a b : SM) : SM := fun ρ => (c ρ).out fun k ρ1 => if k then a ρ1 else b ρ1
theorem ds_if {c : Expr} {sa sb : List Stmt} {mc : TM} {a b : SM} (hc : DT X W c mc) (ha : DSs X W sa a) (hb : DSs X W sb b) : DS X W (.If c sa sb pos) (sIf mc a b) := by
  obtain ⟨t, p, s⟩ := hc
  obtain ⟨ta, pa, s1⟩ := ha
  obtain ⟨tb, pb, s2⟩ := hb
  refine ⟨_, ps_if p pa pb, fun B M H ρ σ E r h => s B M H ρ σ _ r (PostS.out h fun k ρ1 M1 H1 v x1 r1 q1 k1 => ?_)⟩
  cases q1
  cases k with
  | true => exact iteT (s1 B M1 H1 ρ1 σ E r1 k1)
  | false => exact iteF (s2 B M1 H1 ρ1 σ E r1 k1)
def sDrop (m : EM) : SM := fun ρ => (m ρ).out fun _ ρ1 => .nx ρ1
theorem ds_expr {m : EM} (h : DE X W e m) (hs : swapsWith e none pos.line X.env = pure false := by rfl) : DS X W (.Expr e pos) (sDrop m) := by
  obtain ⟨t, p, s⟩ := h
  exact ⟨_, ps_expr p hs, fun B M H ρ σ E r h => s B M H ρ σ _ r (PostS.out h fun d ρ1 M1 H1 v x1 r1 q1 k1 => k1 M1 H1 _ Ext.refl r1)⟩

/-! ### owned objects are changed -/
def ownGet (ρ : Env) (i : Nat) : Option D := (RV.own i).get ρ
def ownSet (ρ : Env) (i : Nat) (d : D) : Env := match ρ[i]? with
  | some (.p _) => ρ.set i (.p d)
  | some (.o _) => ρ.set i (.o d)
  | _ => ρ
theorem own_at {K : PySem.W.Frag} {B : Base} {M : Addr → Prop} {H : Hp} {ρ : Env} {σ : St} {i : Nat} {d : D} (r : Rep K B M H ρ σ) (h : ownGet ρ i = some d) :
    ∃ a s, ρ[i]? = some s ∧ isOwn s = true ∧ σ[i]? = some (some (V.ref a)) ∧ Ow K M H d a ∧ ∀ d', ownSet ρ i d' = ρ.set i (reSlot s d') := by
  unfold ownGet at h
  cases e : ρ[i]? with
  | none => simp only [RV.get, e] at h; cases h
  | some s =>
    simp only [RV.get, e] at h
    cases s with
    | no => cases h
    | v d => cases h
    | o d1 =>
      cases h
      obtain ⟨a, e1, w, _⟩ := r.slot i _ e
      exact ⟨a, _, rfl, rfl, join_of e1, w, fun d' => by unfold ownSet; rw [e]; rfl⟩
    | p d1 =>
      cases h
      obtain ⟨a, e1, w, _⟩ := r.slot i _ e
      exact ⟨a, _, rfl, rfl, join_of e1, w, fun d' => by unfold ownSet; rw [e]; rfl⟩
/-- what a method's rule asks is served by f: the new content, the answer -/
def MutE (X : Cx) (f : D → List D → Option (D × D)) (r : V → List V → Hp → VK → Prop) : Prop :=
  ∀ (M : Addr → Prop) (H : Hp) (a : Addr) (d d' z : D) (ds : List D) (xs : List V) (Q : V → Hp → Prop), Ow X.K M H d a → RpL X.K M H ds xs → f d ds = some (d', z) →
    (∀ (u : HO) (v : V), Ow X.K M (upd H a u) d' a → (∀ H', Ext M H M H' → Rp X.K M H' z v) → Q v (upd H a u)) → r (.ref a) xs H Q
def eMut (i : Nat) (ok : D → Bool) (f : D → List D → Option (D × D)) (ml : Env → Res (List D)) : EM := fun ρ => (ofO (ownGet ρ i) ρ).bind fun d0 _ => if ok d0 then (ml ρ).bind fun ds ρ1 => (ofO (ownGet ρ1 i) ρ1).bind fun d _ =>
  (ofO (f d ds) ρ1).bind fun r _ => .ok r.2 (ownSet ρ1 i r.1) else .bad
def isLst : D → Bool
  | .lst _ => true
  | _ => false
theorem de_mut {i : Nat} {x : Str} {px apos cpos : Pos} {f : D → List D → Option (D × D)} {r : V → List V → Hp → VK → Prop} {ml : Env → Res (List D)} {es : List Expr} {name : Str} {id : String} (hv : PE X (.Name x px) (tVar i))
    (slot : PySem.Slot "list" name id) (hty : typeOf (.builtin id) = pure (.type "method_descriptor")) (hm : MtR X id r) (hf : MutE X f r) (ha : DL X W (e :: es) ml)
    (hbase : attributeBase (.Name x px) name X.env (eval (.Name x px) X.env) = eval (.Name x px) X.env := by rfl)
    (hfew : ((backTo cpos (starEach (e :: es) X.env)).all (fun x => !x.1) && (backToKw cpos (keywordEach [] X.env)).all (fun x => x.1.isSome)
      && decide ((e :: es).length + ([] : List Keyword).length + (if ([] : List Keyword).isEmpty then 0 else 1) < 30)) = true := by rfl)
    (hline : (apos.endLine == cpos.line) = true := by rfl) (hs : starEach (e :: es) X.env = (false, eval e X.env) :: starEach es X.env := by rfl) (hplain : (backTo cpos (starEach es X.env)).any (·.1) = false := by rfl) :
    DE X W (.Call (.Attribute (.Name x px) name apos) (e :: es) [] cpos) (eMut i isLst f ml) := by
  obtain ⟨t, p, s⟩ := ha
  refine ⟨_, pe_bm PySem.F.plainAttrs_list slot hty hm hv p hbase hfew hline hs hplain, fun B M H ρ σ Q rp k => ?_⟩
  unfold eMut at k
  cases e0 : ownGet ρ i with
  | none => rw [e0] at k; exact k.elim
  | some d0 =>
    rw [e0] at k
    cases d0 with
    | lst ds0 =>
      simp only [ofO, Res.bind, isLst] at k
      obtain ⟨a, sl, hi, ho, hv1, w, _⟩ := own_at rp e0
      obtain ⟨_, _, vs0, hH, _⟩ := w
      refine ⟨_, hv1, .inl ⟨rfl, _, SqL.of hH⟩, ?_⟩
      refine s B M H ρ σ _ rp (Post.seq k fun ds ρ1 M1 H1 xs x1 r1 q1 k1 => ?_)
      cases e1 : ownGet ρ1 i with
      | none => rw [e1] at k1; exact k1.elim
      | some d =>
        rw [e1] at k1
        obtain ⟨a', sl', hi', ho', hv', w', es'⟩ := own_at r1 e1
        rw [hv1] at hv'
        cases hv'
        cases e2 : f d ds with
        | none => simp only [ofO, Res.bind, e2] at k1; exact k1.elim
        | some r =>
          simp only [ofO, Res.bind, e2] at k1
          obtain ⟨o0, q0, im⟩ := w'.there
          refine hf M1 H1 a d r.1 r.2 ds xs Q w' q1 e2 fun u v wn rz => ?_
          have hx : Ext M1 H1 M1 (upd H1 a u) := Ext.write w'.mem q0 im
          refine k1 M1 _ v hx ?_ (rz _ hx)
          rw [es' r.1]
          exact r1.mutate hi' ho' hv1 wn rfl
    | _ => simp only [ofO, Res.bind, isLst] at k; exact k.elim
def appD (d : D) (xs : List D) : Option (D × D) := match d, xs with
  | .lst ds, [y] => if ds.length < sizeLine then some (.lst (ds ++ [y]), .non) else none
  | _, _ => none
theorem m_append : MutE X appD rAppend := by
  intro M H a d d' z ds xs Q w r hf k
  unfold appD at hf
  split at hf
  · split at hf
    · rename_i hl
      cases hf
      obtain ⟨m, l, vs, e, q⟩ := w
      cases r with
      | @cons _ _ v1 _ r1 r2 =>
        cases r2
        have hx : Ext M H M (upd H a (.lst (vs ++ [v1]))) := Ext.write m e fun z => z
        exact ⟨a, vs, _, rfl, rfl, e, by rw [← q.length]; exact hl, k _ _ ⟨m, by rw [List.length_append]; exact hl, _, upd_same, RpL.ext hx (q.append (.cons r1 .nil))⟩ fun _ _ => .non⟩
    · cases hf
  · cases hf
/-- xs[i] = e -/
def sSetIx (i : Nat) (me mi : EM) : SM := fun ρ => (me ρ).out fun z ρ1 => (ofO (ownGet ρ1 i) ρ1).out fun _ _ => (mi ρ1).out fun k ρ2 => match ownGet ρ2 i, k with
  | some (.lst ds), .int n => (match ixN ds.length n with
    | some j => .nx (ownSet ρ2 i (.lst (ds.set j z)))
    | none => .bad)
  | _, _ => .bad
theorem ds_setIx {i : Nat} {x : Str} {px pos' : Pos} {ix : Expr} {me mi : EM} (hv : PE X (.Name x px) (tVar i)) (he : DE X W e me) (hi : DE X W ix mi)
    (ha : ∀ v, assign (.Subscript (.Name x px) ix pos') X.env v = (do
      let ov ← holding [v] (eval (.Name x px) X.env)
      let iv ← holding [v, ov] (eval ix X.env)
      standAt pos'
      holding [v, ov, iv] (setItem ov iv v)
      release [v, ov, iv] []) := by intro _; rfl)
    (hs : swapsWithSole [.Subscript (.Name x px) ix pos'] e pos.line X.env = pure false := by rfl) (hw : swappedStores [.Subscript (.Name x px) ix pos'] e X.env = pure none := by rfl)
    (h1 : (assignEach [.Subscript (.Name x px) ix pos'] X.env).map (·.2) = [assign (.Subscript (.Name x px) ix pos') X.env] := by rfl) :
    DS X W (.Assign [.Subscript (.Name x px) ix pos'] e pos) (sSetIx i me mi) := by
  obtain ⟨t, p, s⟩ := he
  obtain ⟨t2, p2, s2⟩ := hi
  refine ⟨_, ps_asg p (pg_sub hv p2 set_list ha) hs hw h1, fun B M H ρ σ E r h => s B M H ρ σ _ r (PostS.out h fun z ρ1 M1 H1 zv x1 r1 q1 k1 => ?_)⟩
  cases e0 : ownGet ρ1 i with
  | none => rw [e0] at k1; exact k1.elim
  | some d0 =>
    rw [e0] at k1
    obtain ⟨a, sl, hi, ho, hv1, w, _⟩ := own_at r1 e0
    refine ⟨_, hv1, s2 B M1 H1 ρ1 σ _ r1 (PostS.out (α := D) (f := fun k ρ2 => match ownGet ρ2 i, k with
      | some (.lst ds), .int n => (match ixN ds.length n with
        | some j => .nx (ownSet ρ2 i (.lst (ds.set j z)))
        | none => .bad)
      | _, _ => .bad) k1 fun kd ρ2 M2 H2 kv x2 r2 q2 k2 => ?_)⟩
    cases e1 : ownGet ρ2 i with
    | none => simp only [e1] at k2; exact k2.elim
    | some d =>
      obtain ⟨a', sl', hi', ho', hv', w', es'⟩ := own_at r2 e1
      rw [hv1] at hv'
      cases hv'
      cases d with
      | lst ds =>
        cases kd with
        | int n =>
          simp only [e1] at k2
          cases ej : ixN ds.length n with
          | none => simp only [ej] at k2; exact k2.elim
          | some j =>
            simp only [ej] at k2
            obtain ⟨m, l, vs, hH, q⟩ := w'
            cases q2
            refine ⟨a, vs, n, j, rfl, rfl, hH, by rw [← q.length]; exact ej, ?_⟩
            have hx : Ext M2 H2 M2 (upd H2 a (.lst (vs.set j zv))) := Ext.write m hH fun z => z
            refine k2 M2 _ σ hx ?_
            rw [es']
            exact r2.mutate (d' := .lst (ds.set j z)) hi' ho' hv1 ⟨m, by simpa using l, _, upd_same, RpL.ext hx (RpL.set (Rp.ext x2 q1) j q)⟩ rfl
        | _ => simp only [e1] at k2; exact k2.elim
      | _ => simp only [e1] at k2; exact k2.elim
end
end NV

set_option Elab.async false
set_option linter.all false
set_option maxRecDepth 100000
set_option maxHeartbeats 4000000
/-! Core5: targets, what is walked, for, comprehensions, while. -/
namespace NV
open PySem PySem.Spec PyProof.Rows L2

section
variable {X : Cx} {W : WX}
/-! ### targets -/
/-- only the slots vs are stored -/
def Only (vs : List Nat) (σ σ' : St) : Prop := σ'.length = σ.length ∧ ∀ j, j ∉ vs → σ'[j]? = σ[j]?
def DG (X : Cx) (tg : Expr) (g : D → Env → Option Env) (vs : List Nat) : Prop := ∃ t, PG X tg t ∧
  ∀ (B : Base) (M : Addr → Prop) (H : Hp) (ρ ρ' : Env) (σ : St) (d : D) (v : V) (Q : St → Hp → Prop), Rep X.K B M H ρ σ → Rp X.K M H d v → g d ρ = some ρ' → (∀ σ', Rep X.K B M H ρ' σ' → Only vs σ σ' → Q σ' H) → t v σ H Q
def gNm (i : Nat) (d : D) (ρ : Env) : Option Env := some (ρ.set i (.v d))
theorem dg_name {i : Nat} {x : Str} {pos : Pos} (hN : X.N.Nodup) (hi : X.N[i]? = some x) (hx : Loc X.env.scope x) (hf : X.fn x = true ∨ X.env.scope.names.lookup x = some .local := by first | exact .inl rfl | exact .inr rfl | assumption) : DG X (.Name x pos) (gNm i) [i] :=
  ⟨_, pg_name hN hi hx hf, fun B M H ρ ρ' σ d v Q r q e k => by
    cases e
    exact k _ (r.setV i q) ⟨by simp, fun j hj => List.getElem?_set_ne fun e => hj (by simp [e])⟩⟩
def DGs (X : Cx) (tgs : List Expr) (g : List D → Env → Option Env) (us : List Nat) : Prop := ∃ t, PGs X tgs t ∧
  ∀ (B : Base) (M : Addr → Prop) (H : Hp) (ρ ρ' : Env) (σ : St) (ds : List D) (vs : List V) (Q : St → Hp → Prop), Rep X.K B M H ρ σ → RpL X.K M H ds vs → g ds ρ = some ρ' → (∀ σ', Rep X.K B M H ρ' σ' → Only us σ σ' → Q σ' H) → t vs σ H Q
def gsNil (ds : List D) (ρ : Env) : Option Env := match ds with
  | [] => some ρ
  | _ => none
def gsCons (g : D → Env → Option Env) (gs : List D → Env → Option Env) (ds : List D) (ρ : Env) : Option Env := match ds with
  | d :: r => (g d ρ).bind fun ρ1 => gs r ρ1
  | _ => none
theorem dgs_nil : DGs X [] gsNil [] := ⟨_, pgs_nil, fun B M H ρ ρ' σ ds vs Q r q e k => by
  cases ds with
  | nil =>
    cases q
    cases e
    exact ⟨rfl, k _ r ⟨rfl, fun _ _ => rfl⟩⟩
  | cons _ _ => cases e⟩
theorem dgs_cons {e : Expr} {es : List Expr} {g : D → Env → Option Env} {gs : List D → Env → Option Env} {us vs : List Nat} (h : DG X e g us) (hs : DGs X es gs vs) (ha : (assignEach (e :: es) X.env).map (·.2) = assign e X.env :: (assignEach es X.env).map (·.2) := by rfl) : DGs X (e :: es) (gsCons g gs) (us ++ vs) := by
  obtain ⟨t, p, s⟩ := h
  obtain ⟨u, q, s'⟩ := hs
  refine ⟨_, pgs_cons p q ha, fun B M H ρ ρ' σ ds vs Q r rq e k => ?_⟩
  cases ds with
  | nil => cases e
  | cons d ds =>
    cases rq with
    | cons r1 r2 =>
      have e : (g d ρ).bind (fun ρ1 => gs ds ρ1) = some ρ' := e
      cases e1 : g d ρ with
      | none => rw [e1] at e; cases e
      | some ρ1 =>
        rw [e1] at e
        exact ⟨_, _, rfl, s B M H ρ ρ1 σ d _ _ r r1 e1 fun σ1 rr o1 => s' B M H ρ1 ρ' σ1 ds _ Q rr r2 e fun σ2 rr2 o2 => k σ2 rr2 ⟨o2.1.trans o1.1, fun j hj => by
          rw [List.mem_append, not_or] at hj
          exact (o2.2 j hj.2).trans (o1.2 j hj.1)⟩⟩
def gTp (n : Nat) (gs : List D → Env → Option Env) (d : D) (ρ : Env) : Option Env := match d with
  | .tup ds => if ds.length = n then gs ds ρ else none
  | _ => none
theorem dg_tup {es : List Expr} {k : Nat} {gs : List D → Env → Option Env} {n : Nat} {vs : List Nat} {pos : Pos} (c : Cd X) (h : DGs X es gs vs) (hn : (assignEach es X.env).length = n := by rfl) (hst : (assignEach es X.env).findIdx? (·.1) = none := by rfl) : DG X (.Tuple es k pos) (gTp n gs) vs := by
  obtain ⟨t, p, s⟩ := h
  refine ⟨_, pg_tup c.calm p hn hst, fun B M H ρ ρ' σ d v Q r q e k => ?_⟩
  unfold gTp at e
  split at e
  · split at e
    · rename_i hl
      cases q with
      | tup l h1 h2 => exact ⟨_, _, rfl, h1, by rw [← h2.length]; exact hl, s B M H ρ ρ' σ _ _ Q r h2 e k⟩
    · cases e
  · cases e
def sAsg (m : EM) (g : D → Env → Option Env) : SM := fun ρ => (m ρ).out fun d ρ1 => match g d ρ1 with
  | some ρ2 => .nx ρ2
  | none => .bad
theorem ds_asg {tg e : Expr} {m : EM} {g : D → Env → Option Env} {vs : List Nat} {pos : Pos} (he : DE X W e m) (hg : DG X tg g vs) (hs : swapsWithSole [tg] e pos.line X.env = pure false := by rfl) (hw : swappedStores [tg] e X.env = pure none := by rfl)
    (h1 : (assignEach [tg] X.env).map (·.2) = [assign tg X.env] := by rfl) : DS X W (.Assign [tg] e pos) (sAsg m g) := by
  obtain ⟨t, p, s⟩ := he
  obtain ⟨u, q, s'⟩ := hg
  refine ⟨_, ps_asg p q hs hw h1, fun B M H ρ σ E r h => s B M H ρ σ _ r (PostS.out h fun d ρ1 M1 H1 v x1 r1 q1 k1 => ?_)⟩
  cases e1 : g d ρ1 with
  | none => simp only [e1] at k1; exact k1.elim
  | some ρ2 =>
    simp only [e1] at k1
    exact s' B M1 H1 ρ1 ρ2 σ d v _ r1 q1 e1 fun σ' rr _ => k1 M1 H1 σ' Ext.refl rr
/-- a, b = x, y -/
def sPar (i j : Nat) (m : Env → Res (List D)) : SM := fun ρ => (m ρ).out fun ds ρ1 => match ds with
  | [d, e] => .nx ((ρ1.set i (.v d)).set j (.v e))
  | _ => .bad
theorem ds_par {i j : Nat} {x y : Str} {a b : Expr} {m : Env → Res (List D)} {px py pt pos : Pos} {kt k2 pt2} (c : Cd X) (hN : X.N.Nodup) (hi : X.N[i]? = some x) (hj : X.N[j]? = some y) (hij : i ≠ j)
    (hx : X.env.scope.names.lookup x = some .local) (hy : X.env.scope.names.lookup y = some .local) (ha : DL X W [a, b] m)
    (hw : swappedStores [.Tuple [.Name x px, .Name y py] kt pt] (.Tuple [a, b] k2 pt2) X.env = pure (some [x, y]))
    (hs : swapsWithSole [.Tuple [.Name x px, .Name y py] kt pt] (.Tuple [a, b] k2 pt2) pos.line X.env = pure false := by rfl) :
    DS X W (.Assign [.Tuple [.Name x px, .Name y py] kt pt] (.Tuple [a, b] k2 pt2) pos) (sPar i j m) := by
  obtain ⟨t, p, s⟩ := ha
  refine ⟨_, ps_par c.calm hN hi hj hij hx hy p hw hs, fun B M H ρ σ E r h => s B M H ρ σ _ r (PostS.out h fun ds ρ1 M1 H1 vs x1 r1 q1 k1 => ?_)⟩
  match ds, q1, k1 with
  | [], _, k1 => exact k1.elim
  | [d], _, k1 => exact k1.elim
  | [d, e], q1, k1 =>
    cases q1 with
    | cons a1 q2 =>
      cases q2 with
      | cons a2 q3 =>
        cases q3
        exact ⟨_, _, rfl, k1 M1 H1 _ Ext.refl ((r1.setV i a1).setV j a2)⟩
  | _ :: _ :: _ :: _, _, k1 => exact k1.elim
def sPar3 (i j l : Nat) (m : Env → Res (List D)) : SM := fun ρ => (m ρ).out fun ds ρ1 => match ds with
  | [d, e, f] => .nx (((ρ1.set i (.v d)).set j (.v e)).set l (.v f))
  | _ => .bad
theorem ds_par3 {i j l : Nat} {x y z : Str} {a b c : Expr} {m : Env → Res (List D)} {px py pz pt pos : Pos} {kt k2 pt2} (cd : Cd X) (hN : X.N.Nodup) (hi : X.N[i]? = some x) (hj : X.N[j]? = some y) (hl : X.N[l]? = some z) (hij : i ≠ j) (hil : i ≠ l) (hjl : j ≠ l)
    (hx : X.env.scope.names.lookup x = some .local) (hy : X.env.scope.names.lookup y = some .local) (hz : X.env.scope.names.lookup z = some .local) (ha : DL X W [a, b, c] m)
    (hw : swappedStores [.Tuple [.Name x px, .Name y py, .Name z pz] kt pt] (.Tuple [a, b, c] k2 pt2) X.env = pure (some [x, y, z]))
    (hs : swapsWithSole [.Tuple [.Name x px, .Name y py, .Name z pz] kt pt] (.Tuple [a, b, c] k2 pt2) pos.line X.env = pure false := by rfl) :
    DS X W (.Assign [.Tuple [.Name x px, .Name y py, .Name z pz] kt pt] (.Tuple [a, b, c] k2 pt2) pos) (sPar3 i j l m) := by
  obtain ⟨t, p, s⟩ := ha
  refine ⟨_, ps_par3 cd.calm hN hi hj hl hij hil hjl hx hy hz p hw hs, fun B M H ρ σ E r h => s B M H ρ σ _ r (PostS.out h fun ds ρ1 M1 H1 vs x1 r1 q1 k1 => ?_)⟩
  match ds, q1, k1 with
  | [], _, k1 => exact k1.elim
  | [d], _, k1 => exact k1.elim
  | [d, e], _, k1 => exact k1.elim
  | [d, e, f], q1, k1 =>
    cases q1 with
    | cons a1 q2 =>
      cases q2 with
      | cons a2 q3 =>
        cases q3 with
        | cons a3 q4 =>
          cases q4
          exact ⟨_, _, _, rfl, k1 M1 H1 _ Ext.refl (((r1.setV i a1).setV j a2).setV l a3)⟩
  | _ :: _ :: _ :: _ :: _, _, k1 => exact k1.elim

/-! ### what is walked -/
/-- the iterator yields ds, whatever the heap has become meanwhile -/
def ItOk (K : PySem.W.Frag) (M0 : Addr → Prop) (H0 : Hp) (J : It) (ds : List D) : Prop :=
  ∀ (M : Addr → Prop) (H : Hp), Ext M0 H0 M H → (∀ i, ds.length ≤ i → J.stop i H) ∧ ∀ i d, ds[i]? = some d → J.go i H ∧ ∀ x H', J.yld i H x H' → (∀ b o, H b = some o → H' b = some o) ∧ Rp K M H' d x
def DI (X : Cx) (W : WX) (tg e : Expr) (mi : Env → Res (List D)) : Prop := ∃ wi, PI X tg e wi ∧
  ∀ (B : Base) (M : Addr → Prop) (H : Hp) (ρ : Env) (σ : St) (Q : It → Hp → Prop), Rep X.K B M H ρ σ → Post X B W (fun M' H' _ ds J => ItOk X.K M' H' J ds ∧ ds.length ≤ sizeLine) M H σ (mi ρ) Q → wi σ H Q
/-- a list, a tuple, a text -/
def iAny (K : PySem.W.Frag) (te : TE) : TI := fun σ H R => te σ H fun x H1 => (∃ a, x = .ref a ∧ (∃ xs, SqL K H1 a xs) ∧ R (Itl K a) H1) ∨ ((∃ a, x = .ref a ∧ (∃ xs, SqT K H1 a xs) ∧ R (Itt K a) H1) ∨ ∃ z, x = .str z ∧ R (Its z) H1)
theorem pi_any {tg l : Expr} {tl : TE} (hl : PE X l tl) : PI X tg l (iAny X.K tl) := by
  refine ⟨fun pins s σ H R I h => ?_⟩
  refine thn (hl.run pins s σ H _ I h) fun v s1 ⟨x, H1, I1, r1, q1⟩ => ?_
  rcases q1 with ⟨a, e, ⟨xs, hq⟩, q⟩ | ⟨a, e, ⟨xs, hq⟩, q⟩ | ⟨z, e, q⟩
  · subst e
    cases r1
    obtain ⟨its, rv, p, hz⟩ := I1.list hq
    refine wpAny_pyIter_list p.isList ?_
    refine ⟨s1.heap.objs.size, [s1.heap.objs.size], _, _, H1, rfl, I1.kept (t' := s1.toks) fun b o e => Heap.get?_push_of_some _ e, turn_list a _, ⟨_, Heap.get?_push_size _ rfl, rfl, rfl⟩, fun b hb => ?_, q⟩
    have e : b = s1.heap.objs.size := by simpa using hb
    subst e
    exact I1.fpOk (Nat.le_refl _) (I1.hok.fresh (Nat.le_refl _))
  · subst e
    cases r1
    obtain ⟨its, rv, p, hz⟩ := I1.tuple hq
    refine wpAny_pyIter_tuple (show s1.heap.IsTuple a its.toArray from p) ?_
    refine ⟨s1.heap.objs.size, [s1.heap.objs.size], _, _, H1, rfl, I1.kept (t' := s1.toks) fun b o e => Heap.get?_push_of_some _ e, turn_tuple a _, ⟨_, Heap.get?_push_size _ rfl, rfl, rfl⟩, fun b hb => ?_, q⟩
    have e : b = s1.heap.objs.size := by simpa using hb
    subst e
    exact I1.fpOk (Nat.le_refl _) (I1.hok.fresh (Nat.le_refl _))
  · subst e
    obtain ⟨t, rfl⟩ := r1
    cases ha : z.cps.all (· < 128)
    · exact wpAny_pyIter_wide ha (pi_one (tk := s1.toks) I1 _ (turn_str _ z t "str_iterator" (.inr rfl)) ⟨_, Heap.get?_push_size _ rfl, rfl, rfl⟩ q)
    · exact wpAny_pyIter_ascii ha (pi_one (tk := s1.toks) I1 _ (turn_str _ z t "str_ascii_iterator" (.inl rfl)) ⟨_, Heap.get?_push_size _ rfl, rfl, rfl⟩ q)
def itemsD : D → Option (List D)
  | .tup ds => some ds
  | .lst ds => some ds
  | .scr xs => some (xs.map .int)
  | .str z => some (z.cps.toList.map fun c => .str ⟨#[c]⟩)
  | _ => none
def iVal (m : EM) : Env → Res (List D) := fun ρ => (m ρ).bind fun d ρ1 => ofO (itemsD d) ρ1
theorem itOk_list {K : PySem.W.Frag} {M : Addr → Prop} {H : Hp} {a : Addr} {ds : List D} {vs : List V} (h : H a = some (.lst vs)) (n : ¬ M a) (r : RpL K M H ds vs) : ItOk K M H (Itl K a) ds := fun M' H' x => by
  have h' : SqL K H' a vs := SqL.of (x _ _ h (.inl n)).1
  refine ⟨fun i hi => ⟨vs, h', by rw [← r.length]; exact hi⟩, fun i d hd => ?_⟩
  obtain ⟨v, hv, rv⟩ := r.get hd
  refine ⟨⟨vs, v, h', hv⟩, fun y H2 ⟨e, hy⟩ => ?_⟩
  subst e
  have e2 := hy vs h'
  rw [hv] at e2
  cases e2
  exact ⟨fun _ _ z => z, Rp.ext x rv⟩
theorem itOk_tuple {K : PySem.W.Frag} {M : Addr → Prop} {H : Hp} {a : Addr} {ds : List D} {vs : List V} (h : SqT K H a vs) (r : RpL K M H ds vs) : ItOk K M H (Itt K a) ds := fun M' H' x => by
  have h' : SqT K H' a vs := x.sqT h
  refine ⟨fun i hi => ⟨vs, h', by rw [← r.length]; exact hi⟩, fun i d hd => ?_⟩
  obtain ⟨v, hv, rv⟩ := r.get hd
  refine ⟨⟨vs, v, h', hv⟩, fun y H2 ⟨e, hy⟩ => ?_⟩
  subst e
  have e2 := hy vs h'
  rw [hv] at e2
  cases e2
  exact ⟨fun _ _ z => z, Rp.ext x rv⟩
theorem itOk_scr {K : PySem.W.Frag} {M : Addr → Prop} {H : Hp} {a : Addr} {xs : List Int} (h : SqS K H a xs) : ItOk K M H (Itl K a) (xs.map .int) := fun M' H' x => by
  have h' : SqL K H' a (xs.map V.int) := (x.sqS h).sql
  refine ⟨fun i hi => ⟨_, h', by rw [List.length_map] at hi ⊢; exact hi⟩, fun i d hd => ?_⟩
  rw [List.getElem?_map] at hd
  cases e : xs[i]? with
  | none => rw [e] at hd; cases hd
  | some n =>
    rw [e] at hd
    cases hd
    have hv : (xs.map V.int)[i]? = some (.int n) := by rw [List.getElem?_map, e]; rfl
    refine ⟨⟨_, _, h', hv⟩, fun y H2 ⟨e, hy⟩ => ?_⟩
    subst e
    have e2 := hy _ h'
    rw [hv] at e2
    cases e2
    exact ⟨fun _ _ z => z, .int n⟩
theorem itOk_str {K : PySem.W.Frag} {M : Addr → Prop} {H : Hp} {z : Str} (g : StrG z) : ItOk K M H (Its z) (z.cps.toList.map fun c => .str ⟨#[c]⟩) := fun M' H' x => by
  refine ⟨fun i hi => by rw [List.length_map, Array.length_toList] at hi; exact hi, fun i d hd => ?_⟩
  rw [List.getElem?_map] at hd
  cases e : z.cps.toList[i]? with
  | none => rw [e] at hd; cases hd
  | some c =>
    rw [e] at hd
    cases hd
    have e3 : z.cps[i]? = some c := by rw [← e]; simp
    refine ⟨by have := (List.getElem?_eq_some_iff.mp e).1; rw [Array.length_toList] at this; exact this, fun y H2 ⟨e1, c', hc, hy⟩ => ?_⟩
    rw [e3] at hc
    cases hc
    subst e1 hy
    exact ⟨fun _ _ z => z, .str (strG_sub (z := z) g (by
      show 1 ≤ _
      exact Nat.lt_of_le_of_lt (Nat.zero_le i) (List.getElem?_eq_some_iff.mp e).1) fun c2 h2 => by
        have : c2 = c := by simpa using h2
        rw [this]; exact List.mem_of_getElem? e)⟩
theorem di_val {tg e : Expr} {m : EM} (h : DE X W e m) : DI X W tg e (iVal m) := by
  obtain ⟨t, p, s⟩ := h
  refine ⟨_, pi_any p, fun B M H ρ σ Q rp k => s B M H ρ σ _ rp (Post.seq k fun d ρ1 M1 H1 v x1 r1 q1 k1 => ?_)⟩
  cases d with
  | tup ds =>
    cases q1 with
    | tup l h1 h2 => exact .inr (.inl ⟨_, rfl, ⟨_, h1⟩, k1 M1 H1 _ Ext.refl r1 ⟨itOk_tuple h1 h2, l⟩⟩)
  | lst ds =>
    cases q1 with
    | lst l n h1 h2 => exact .inl ⟨_, rfl, ⟨_, SqL.of h1⟩, k1 M1 H1 _ Ext.refl r1 ⟨itOk_list h1 n h2, l⟩⟩
  | scr xs =>
    cases q1 with
    | scr l h1 => exact .inl ⟨_, rfl, ⟨_, h1.sql⟩, k1 M1 H1 _ Ext.refl r1 ⟨itOk_scr h1, by rw [List.length_map]; exact l⟩⟩
  | str z =>
    cases q1 with
    | str g => exact .inr (.inr ⟨_, rfl, k1 M1 H1 _ Ext.refl r1 ⟨itOk_str g, by rw [List.length_map, Array.length_toList]; exact g.1⟩⟩)
  | _ => exact k1.elim
def rngD (lo : Int) (n : Nat) : List D := (List.range n).map fun i => .int (lo + (i : Nat))
theorem itOk_rng {K : PySem.W.Frag} {M : Addr → Prop} {H : Hp} {lo : Int} {n : Nat} : ItOk K M H (Itr lo n) (rngD lo n) := fun M' H' x => by
  refine ⟨fun i hi => by unfold rngD at hi; rw [List.length_map, List.length_range] at hi; exact hi, fun i d hd => ?_⟩
  unfold rngD at hd
  rw [List.getElem?_map] at hd
  cases e : (List.range n)[i]? with
  | none => rw [e] at hd; cases hd
  | some j =>
    rw [e] at hd
    cases hd
    obtain ⟨hl, ej⟩ := List.getElem?_eq_some_iff.mp e
    rw [List.getElem_range] at ej
    subst ej
    refine ⟨by rw [List.length_range] at hl; exact hl, fun y H2 ⟨e1, hy⟩ => ?_⟩
    subst e1 hy
    exact ⟨fun _ _ z => z, .int _⟩
def rng1 (d : D) : Option (List D) := match d with
  | .int j => if j ≤ 16777216 ∧ -(2 ^ 62) ≤ j then some (rngD 0 j.toNat) else none
  | _ => none
def rng2 (d e : D) : Option (List D) := match d, e with
  | .int i, .int j => if -(2 ^ 62) ≤ i ∧ i < 2 ^ 62 ∧ -(2 ^ 62) ≤ j ∧ j < 2 ^ 62 ∧ j - i ≤ 16777216 then some (rngD i (j - i).toNat) else none
  | _, _ => none
def iRange1 (m : EM) : Env → Res (List D) := fun ρ => (m ρ).bind fun d ρ1 => ofO (rng1 d) ρ1
def iRange2 (m1 m2 : EM) : Env → Res (List D) := fun ρ => (m1 ρ).bind fun d ρ1 => (m2 ρ1).bind fun e ρ2 => ofO (rng2 d e) ρ2
theorem di_range1 {tg a : Expr} {m : EM} {p pos : Pos} (hg : Gl X "range") (hm : X.mg "range" = none) (h : DE X W a m) (hs : starEach [a] X.env = [(false, eval a X.env)] := by rfl) (hs2 : starEach [a] X.env = (false, eval a X.env) :: starEach [] X.env := by rfl) : DI X W tg (.Call (.Name "range" p) [a] [] pos) (iRange1 m) := by
  obtain ⟨t, pt, s⟩ := h
  refine ⟨_, pi_range1 hg hm (pa_cons pt pa_nil hs2) hs, fun B M H ρ σ Q rp k => s B M H ρ σ _ rp (Post.seq k fun d ρ1 M1 H1 v x1 r1 q1 k1 => ?_)⟩
  cases d with
  | int j =>
    cases q1
    unfold rng1 at k1
    simp only at k1
    split at k1
    · rename_i hc
      exact ⟨j, rfl, hc.2, by omega, k1 M1 H1 _ Ext.refl r1 ⟨itOk_rng, by unfold rngD; rw [List.length_map, List.length_range, sizeLine_eq]; omega⟩⟩
    · exact k1.elim
  | _ => exact k1.elim
theorem di_range2 {tg a b : Expr} {m1 m2 : EM} {p pos : Pos} (hg : Gl X "range") (hm : X.mg "range" = none) (h : DE X W a m1) (h2 : DE X W b m2) (hs : starEach [a, b] X.env = [(false, eval a X.env), (false, eval b X.env)] := by rfl) (hs2 : starEach [b] X.env = [(false, eval b X.env)] := by rfl)
    (hs3 : starEach [a, b] X.env = (false, eval a X.env) :: starEach [b] X.env := by rfl) (hs4 : starEach [b] X.env = (false, eval b X.env) :: starEach [] X.env := by rfl) : DI X W tg (.Call (.Name "range" p) [a, b] [] pos) (iRange2 m1 m2) := by
  obtain ⟨t, pt, s⟩ := h
  obtain ⟨t2, pt2, s2⟩ := h2
  refine ⟨_, pi_range2 hg hm (pa_cons pt (pa_cons pt2 pa_nil hs4) hs3) hs hs2, fun B M H ρ σ Q rp k => s B M H ρ σ _ rp (Post.seq k fun d ρ1 M1 H1 v x1 r1 q1 k1 => ?_)⟩
  refine s2 B M1 H1 ρ1 σ _ r1 (Post.seq k1 fun e ρ2 M2 H2 v2 x2 r2 q2 k2 => ?_)
  cases d with
  | int i =>
    cases e with
    | int j =>
      cases q1
      cases q2
      unfold rng2 at k2
      simp only at k2
      split at k2
      · rename_i hc
        exact ⟨i, j, rfl, ⟨hc.1, hc.2.1, hc.2.2.1, hc.2.2.2.1⟩, k2 M2 H2 _ Ext.refl r2 ⟨itOk_rng, by unfold rngD; rw [List.length_map, List.length_range, sizeLine_eq]; omega⟩⟩
      · exact k2.elim
    | _ => exact k2.elim
  | _ => exact k2.elim

/-! ### for -/
def forL (g : D → Env → Option Env) (body : SM) : List D → SM
  | [], ρ => .nx ρ
  | d :: ds, ρ => match g d ρ with
    | none => .bad
    | some ρ1 => match body ρ1 with
      | .nx ρ2 => forL g body ds ρ2
      | .ct ρ2 => forL g body ds ρ2
      | .bk ρ2 => .nx ρ2
      | o => o
def sFor (mi : Env → Res (List D)) (g : D → Env → Option Env) (body : SM) : SM := fun ρ => (mi ρ).out fun ds ρ1 => forL g body ds ρ1
theorem ds_for {tg iter : Expr} {body : List Stmt} {mi : Env → Res (List D)} {g : D → Env → Option Env} {mb : SM} {vs : List Nat} {pos : Pos} (c : Cd X) (hp : PassesOwn (model X.prog X.w) X.A X.env X.xe) (hi : DI X W tg iter mi) (hg : DG X tg g vs) (hb : DSs X W body mb)
    (hs : ∀ x, foldedSetIterable iter X.env x = pure x := by intro _; rfl) : DS X W (.For tg iter body [] pos) (sFor mi g mb) := by
  obtain ⟨wi, pi, si⟩ := hi
  obtain ⟨tg', pg, sg⟩ := hg
  obtain ⟨tb, pb, sb⟩ := hb
  refine ⟨_, ps_for hp c.calm pi pg pb hs, fun B M H ρ σ E r h => si B M H ρ σ _ r (PostS.out (α := List D) (β := It) h fun ds ρ1 M1 H1 J x1 r1 q1 k1 => ?_)⟩
  refine ⟨fun i n σ' H' => n = ds.length - i ∧ ∃ M' ρ', Ext M1 H1 M' H' ∧ Rep X.K B M' H' ρ' σ' ∧ PostS X B W M' H' (forL g mb (ds.drop i) ρ') E, ⟨_, rfl, M1, ρ1, Ext.refl, r1, k1⟩, ?_⟩
  rintro i n σ2 H2 ⟨rfl, M2, ρ2, x2, r2, k2⟩
  obtain ⟨stop, go⟩ := q1.1 M2 H2 x2
  cases hd : ds[i]? with
  | none =>
    have hl : ds.length ≤ i := List.getElem?_eq_none_iff.mp hd
    rw [List.drop_eq_nil_of_le hl] at k2
    exact .inl ⟨stop i hl, k2 M2 H2 σ2 Ext.refl r2⟩
  | some d =>
    obtain ⟨hl, e⟩ := List.getElem?_eq_some_iff.mp hd
    rw [List.drop_eq_getElem_cons hl, e] at k2
    obtain ⟨g1, yl⟩ := go i d hd
    refine .inr ⟨g1, fun σ' H' => ∃ M' ρ', Ext M1 H1 M' H' ∧ Rep X.K B M' H' ρ' σ' ∧ PostS X B W M' H' (forL g mb (ds.drop (i + 1)) ρ') E, fun σ' H' z => ⟨ds.length - (i + 1), by omega, rfl, z⟩, fun x H3 hy => ?_⟩
    obtain ⟨keep, rx⟩ := yl x H3 hy
    have xk : Ext M2 H2 M2 H3 := fun b o eb _ => ⟨keep b o eb, fun n => n⟩
    have r3 : Rep X.K B M2 H3 ρ2 σ2 := r2.grow xk keep (fun _ z => z) (fun _ z => .inl z) fun b z => by
      cases q : H2 b with
      | none => exact absurd q (r2.trk b z)
      | some o => rw [keep b o q]; simp
    unfold forL at k2
    cases eg : g d ρ2 with
    | none => simp only [eg] at k2; exact k2.elim
    | some ρ3 =>
      simp only [eg] at k2
      refine sg B M2 H3 ρ2 ρ3 σ2 d x _ r3 rx eg fun σ3 r4 _ => sb B M2 H3 ρ3 σ3 _ r4 ?_
      have k3 := PostS.shift xk k2
      have next : ∀ ρ4, PostS X B W M2 H3 (forL g mb (ds.drop (i + 1)) ρ4) E → ∀ (M' : Addr → Prop) (H' : Hp) (σ' : St), Ext M2 H3 M' H' → Rep X.K B M' H' ρ4 σ' →
          ∃ M' ρ', Ext M1 H1 M' H' ∧ Rep X.K B M' H' ρ' σ' ∧ PostS X B W M' H' (forL g mb (ds.drop (i + 1)) ρ') E := fun ρ4 k4 M' H' σ' x4 r5 => ⟨M', ρ4, x2.trans (xk.trans x4), r5, PostS.shift x4 k4⟩
      cases em : mb ρ3 with
      | nx ρ4 => rw [em] at k3; exact next ρ4 k3
      | ct ρ4 => rw [em] at k3; exact next ρ4 k3
      | bk ρ4 => rw [em] at k3; exact k3
      | rt d' ρ4 => rw [em] at k3; exact k3
      | rtF d' ρ4 => rw [em] at k3; exact k3
      | exc x' ρ4 => rw [em] at k3; exact k3
      | bad => rw [em] at k3; exact k3

/-! ### while -/
def whileL (c : TM) (body : SM) : Nat → SM
  | 0, _ => .bad
  | n + 1, ρ => match c ρ with
    | .bad => .bad
    | .exc x ρ1 => .exc x ρ1
    | .ok false ρ1 => .nx ρ1
    | .ok true ρ1 => match body ρ1 with
      | .nx ρ2 => whileL c body n ρ2
      | .ct ρ2 => whileL c body n ρ2
      | .bk ρ2 => .nx ρ2
      | o => o
theorem ds_while {test : Expr} {body : List Stmt} {mc : TM} {mb : SM} {pos : Pos} (n : Nat) (hp : PassesOwn (model X.prog X.w) X.A X.env X.xe) (hc : DT X W test mc) (hb : DSs X W body mb) : DS X W (.While test body [] pos) (whileL mc mb n) := by
  obtain ⟨tc, pc, sc⟩ := hc
  obtain ⟨tb, pb, sb⟩ := hb
  refine ⟨_, ps_while hp pc pb, fun B M H ρ σ E r h => ?_⟩
  refine ⟨fun k σ' H' => ∃ M' ρ', Rep X.K B M' H' ρ' σ' ∧ PostS X B W M' H' (whileL mc mb k ρ') E, ⟨n, M, ρ, r, h⟩, ?_⟩
  rintro k σ2 H2 ⟨M2, ρ2, r2, k2⟩
  cases k with
  | zero => exact k2.elim
  | succ k =>
    unfold whileL at k2
    refine sc B M2 H2 ρ2 σ2 _ r2 ?_
    cases ec : mc ρ2 with
    | bad => rw [ec] at k2; exact k2
    | exc x ρ3 => rw [ec] at k2; exact fun M' H' c dx x' r' q => k2 M' H' σ2 c dx x' r' q
    | ok b ρ3 =>
      rw [ec] at k2
      intro M3 H3 b' x3 r3 eb
      cases eb
      cases b with
      | false => exact iteF (k2 M3 H3 σ2 x3 r3)
      | true =>
        refine iteT ⟨fun σ' H' => ∃ M' ρ', Rep X.K B M' H' ρ' σ' ∧ PostS X B W M' H' (whileL mc mb k ρ') E, fun σ' H' z => ⟨k, Nat.lt_succ_self k, z⟩, sb B M3 H3 ρ3 σ2 _ r3 ?_⟩
        have k3 := PostS.shift x3 k2
        simp only at k3
        cases em : mb ρ3 with
        | nx ρ4 => rw [em] at k3; exact fun M' H' σ' x4 r5 => ⟨M', ρ4, r5, PostS.shift x4 k3⟩
        | ct ρ4 => rw [em] at k3; exact fun M' H' σ' x4 r5 => ⟨M', ρ4, r5, PostS.shift x4 k3⟩
        | bk ρ4 => rw [em] at k3; exact k3
        | rt d' ρ4 => rw [em] at k3; exact k3
        | rtF d' ρ4 => rw [em] at k3; exact k3
        | exc x' ρ4 => rw [em] at k3; exact k3
        | bad => rw [em] at k3; exact k3
end
end NV

set_option Elab.async false
set_option linter.all false
set_option maxRecDepth 100000
set_option maxHeartbeats 4000000
/-! Core6: comprehensions. -/
namespace NV
open PySem PySem.Spec PyProof.Rows L2

/-! ### one reading for all blocks -/
section
variable {X : Cx} {W : WX}
def tCan (X : Cx) (W : WX) (m : EM) : TE := fun σ H Q => ∃ B M ρ, Rep X.K B M H ρ σ ∧ Post X B W (RelE X.K) M H σ (m ρ) Q
def ttCan (X : Cx) (W : WX) (m : TM) : TT := fun σ H Q => ∃ B M ρ, Rep X.K B M H ρ σ ∧ Post X B W RelT M H σ (m ρ) Q
def tgCan (X : Cx) (g : D → Env → Option Env) (vs : List Nat) : TG := fun v σ H Q => ∃ B M ρ ρ' d, Rep X.K B M H ρ σ ∧ Rp X.K M H d v ∧ g d ρ = some ρ' ∧ ∀ σ', Rep X.K B M H ρ' σ' → Only vs σ σ' → Q σ' H
theorem can_e {e : Expr} {m : EM} (h : DE X W e m) : PE X e (tCan X W m) := by
  obtain ⟨t, p, s⟩ := h
  exact ⟨fun pins s' σ H Q I ⟨B, M, ρ, r, k⟩ => p.run pins s' σ H Q I (s B M H ρ σ Q r k)⟩
theorem can_t {e : Expr} {m : TM} (h : DT X W e m) : PT X e (ttCan X W m) := by
  obtain ⟨t, p, s⟩ := h
  exact ⟨fun pins s' σ H Q I ⟨B, M, ρ, r, k⟩ => p.run pins s' σ H Q I (s B M H ρ σ Q r k)⟩
theorem can_g {e : Expr} {g : D → Env → Option Env} {vs : List Nat} (h : DG X e g vs) : PG X e (tgCan X g vs) := by
  obtain ⟨t, p, s⟩ := h
  exact ⟨fun pins s' σ H v u Q I rv ⟨B, M, ρ, ρ', d, r, q, e, k⟩ => p.run pins s' σ H v u Q I rv (s B M H ρ ρ' σ d v Q r q e k)⟩
/-- a clause's tests -/
def DTs (X : Cx) (W : WX) (ifs : List Expr) (m : TM) : Prop := PTs X ifs (ttCan X W m)
def tYesM : TM := fun ρ => .ok true ρ
theorem dts_nil : DTs X W [] tYesM := ⟨fun pins s σ H Q I ⟨B, M, ρ, r, k⟩ => wpAny_tests_nil ⟨H, I, k M H true Ext.refl r rfl⟩⟩
theorem dts_one {c : Expr} {m : TM} (h : DT X W c m) : DTs X W [c] m := pts_one (can_t h)
end

/-! ### the block's own names -/
def wipeE (ρ : Env) : List Nat → Env
  | [] => ρ
  | v :: vs => (wipeE ρ vs).set v .no
def keepV : Slot → Slot
  | .v d => .v d
  | _ => .no
/-- .. as they were ahead of it -/
def backE (ρ1 : Env) : List Nat → Env → Env
  | [], ρ => ρ
  | v :: vs, ρ => (backE ρ1 vs ρ).set v (keepV (ρ1[v]?.getD .no))
def backS (σ1 : St) : List Nat → St → St
  | [], σ => σ
  | v :: vs, σ => (backS σ1 vs σ).set v (σ1[v]?.join)
section
variable {K : PySem.W.Frag} {B : Base} {M M' : Addr → Prop} {H H' : Hp} {ρ ρ1 : Env} {σ σ1 : St}
theorem Rep.wipe (r : Rep K B M H ρ σ) : ∀ vs : List Nat, Rep K B M H (wipeE ρ vs) (wipe σ vs)
  | [] => r
  | v :: vs => (r.wipe vs).setNo v none
theorem wipe_ext {σ σ2 : St} {vs : List Nat} (h : Only vs (L2.wipe σ vs) σ2) : L2.wipe σ2 vs = L2.wipe σ vs := by
  obtain ⟨hl, h⟩ := h
  rw [wipe_length] at hl
  have at_ : ∀ (s : St) (us : List Nat) (j : Nat), (L2.wipe s us)[j]? = if j ∈ us then (if j < s.length then some none else none) else s[j]? := by
    intro s us j
    induction us with
    | nil => simp [L2.wipe]
    | cons u us ih =>
      unfold L2.wipe
      by_cases e : j = u
      · subst e
        by_cases hj : j < s.length
        · rw [List.getElem?_set_self (by rw [wipe_length]; exact hj)]
          simp [hj]
        · rw [List.getElem?_eq_none (by simp [wipe_length]; omega)]
          simp [hj]
      · rw [List.getElem?_set_ne (Ne.symm e), ih]
        simp [e]
  apply List.ext_getElem?
  intro j
  rw [at_, at_]
  by_cases hj : j ∈ vs
  · rw [if_pos hj, if_pos hj, hl]
  · rw [if_neg hj, if_neg hj, h j hj, at_, if_neg hj]
theorem back_wipe {σ : St} : ∀ vs : List Nat, backS σ vs (L2.wipe σ vs) = σ := by
  intro vs
  have at_ : ∀ (s : St) (us : List Nat), (∀ j, j ∉ us → s[j]? = σ[j]?) → s.length = σ.length → (backS σ us s).length = σ.length ∧ ∀ j, (backS σ us s)[j]? = σ[j]? ∨ (j ∉ us ∧ False) := by
    intro s us h hl
    have hh : ∀ us' : List Nat, (backS σ us' s).length = σ.length := by
      intro us'
      induction us' with
      | nil => exact hl
      | cons u us' ih => unfold backS; rw [List.length_set]; exact ih
    refine ⟨hh us, fun j => .inl ?_⟩
    have key : ∀ us' : List Nat, (backS σ us' s)[j]? = if j ∈ us' then σ[j]? else s[j]? := by
      intro us'
      induction us' with
      | nil => simp [backS]
      | cons u us' ih =>
        unfold backS
        by_cases e : j = u
        · subst e
          by_cases hj : j < σ.length
          · rw [List.getElem?_set_self (by rw [hh]; exact hj)]
            simp [List.getElem?_eq_getElem hj]
          · rw [List.getElem?_eq_none (by simp [hh]; omega), List.getElem?_eq_none (by omega)]
            simp
        · rw [List.getElem?_set_ne (Ne.symm e), ih]
          simp [e]
    rw [key]
    by_cases hj : j ∈ us
    · rw [if_pos hj]
    · rw [if_neg hj, h j hj]
  obtain ⟨h1, h2⟩ := at_ (L2.wipe σ vs) vs (fun j hj => wipe_out hj) (wipe_length _ _)
  exact List.ext_getElem? fun j => (h2 j).elim id fun z => z.2.elim
theorem Rep.back (r1 : Rep K B M H ρ1 σ1) (x : Ext M H M' H') : ∀ (vs : List Nat) {ρ : Env} {σ : St}, Rep K B M' H' ρ σ → Rep K B M' H' (backE ρ1 vs ρ) (backS σ1 vs σ)
  | [], _, _, r => r
  | v :: vs, ρ, σ, r => by
    have ih := r1.back x vs r
    unfold backE backS
    cases e : ρ1[v]? with
    | none => exact ih.setNo v _
    | some s =>
      cases s with
      | v d =>
        obtain ⟨w, e1, q⟩ := r1.slot v _ e
        rw [e1]
        exact ih.setV v (Rp.ext x q)
      | _ => exact ih.setNo v _
/-- an owned object that no slot holds is written -/
theorem Rep.writeAnon (r : Rep K B M H ρ σ) {a : Addr} {o u : HO} (m : M a) (e : H a = some u) (an : Anon ρ σ a) (hb : B.H a = none) (np : ∀ p ∈ B.pr, p.1 ≠ a) (im : ¬ Imm u) : Rep K B M (upd H a o) ρ σ := by
  have hx : Ext M H M (upd H a o) := Ext.write m e im
  refine r.change (fun b ob h1 _ h3 => ?_) (fun b h => ?_) (fun _ h => h) (fun _ h => .inl h) (fun b h => ?_) rfl (fun p hp q => ?_) fun i s hi => ⟨(r.slot i s hi).ext hx fun b ho hv mb => ⟨mb, ?_⟩, s, hi, rfl⟩
  · rw [upd_ne fun z => by subst z; rw [hb] at h1; cases h1]; exact h3
  · by_cases z : b = a
    · rw [z, upd_same]; simp
    · rw [upd_ne z]; exact h
  · by_cases z : b = a
    · rw [z, upd_same]; simp
    · rw [upd_ne z]; exact r.trk b h
  · rw [upd_ne (np p hp)]; exact q
  · exact upd_ne fun z => by subst z; exact an i s hi ho (join_of hv)
/-- meanwhile a holds o -/
def Base.with (B : Base) (a : Addr) (o : HO) : Base := { B with pr := (a, o) :: B.pr }
theorem Rep.prot (r : Rep K B M H ρ σ) {a : Addr} {o : HO} (m : M a) (e : H a = some o) (an : Anon ρ σ a) : Rep K (B.with a o) M H ρ σ :=
  ⟨r.keep, r.old, r.sub, r.new, r.trk, r.len, r.slot, r.apart, fun p hp => by
    rcases List.mem_cons.mp hp with z | z
    · subst z; exact ⟨e, m, an⟩
    · exact r.pr p z⟩
theorem Rep.unprot {a : Addr} {o : HO} (r : Rep K (B.with a o) M H ρ σ) : Rep K B M H ρ σ ∧ M a ∧ H a = some o ∧ Anon ρ σ a :=
  ⟨⟨r.keep, r.old, r.sub, r.new, r.trk, r.len, r.slot, r.apart, fun p hp => r.pr p (List.mem_cons_of_mem _ hp)⟩, (r.pr _ List.mem_cons_self).2.1, (r.pr _ List.mem_cons_self).1, (r.pr _ List.mem_cons_self).2.2⟩
theorem Anon.wipe {a : Addr} (h : Anon ρ σ a) : ∀ vs : List Nat, Anon (wipeE ρ vs) (L2.wipe σ vs) a
  | [] => h
  | v :: vs => fun i s hi ho hv => by
    unfold wipeE at hi
    unfold L2.wipe at hv
    by_cases e : i = v
    · subst e
      by_cases hl : i < (wipeE ρ vs).length
      · rw [List.getElem?_set_self hl] at hi; cases hi; cases ho
      · rw [List.getElem?_eq_none (by simpa using hl)] at hi; cases hi
    · rw [List.getElem?_set_ne (Ne.symm e)] at hi hv
      exact h.wipe vs i s hi ho hv
end

/-! ### [e for x in xs if t] -/
def Res.noexc {α : Type} : Res α → Res α
  | .exc _ _ => .bad
  | r => r
def compL (g : D → Env → Option Env) (mt : TM) (me : EM) (vs : List Nat) : List D → List D → Env → Res (List D)
  | [], acc, ρ => .ok acc ρ
  | d :: ds, acc, ρ => match g d (wipeE ρ vs) with
    | none => .bad
    | some ρ2 => (mt ρ2).noexc.bind fun b ρ3 => if b then (me ρ3).noexc.bind fun z ρ4 => compL g mt me vs ds (acc ++ [z]) ρ4 else compL g mt me vs ds acc ρ3
def eComp (mi : Env → Res (List D)) (g : D → Env → Option Env) (mt : TM) (me : EM) (vs : List Nat) : EM := fun ρ => (mi ρ).bind fun ds ρ1 => (compL g mt me vs ds [] ρ1).bind fun acc ρe => .ok (.lst acc) (backE ρ1 vs (wipeE ρe vs))
section
variable {X : Cx} {W : WX}
theorem comp_sat {wi : TI} {mi : Env → Res (List D)} {g : D → Env → Option Env} {mt : TM} {me : EM} {vs : List Nat}
    (si : ∀ (B : Base) (M : Addr → Prop) (H : Hp) (ρ : Env) (σ : St) (Q : It → Hp → Prop), Rep X.K B M H ρ σ → Post X B W (fun M' H' _ ds J => ItOk X.K M' H' J ds ∧ ds.length ≤ sizeLine) M H σ (mi ρ) Q → wi σ H Q) :
    Sat X W (fun B σ => RelF X.K B σ) (tLc wi (tgCan X g vs) (ttCan X (fun _ _ _ _ => False) mt) (tCan X (fun _ _ _ _ => False) me) vs) (eComp mi g mt me vs) := by
  intro B M H ρ σ Q rp k
  refine si B M H ρ σ _ rp (Post.seq k fun ds ρ1 M1 H1 J x1 r1 q1 k1 => ?_)
  intro Da hD
  have hbD := r1.base_new (X := X) hD
  have npD := r1.pr_new (X := X) hD
  obtain ⟨T, hT⟩ : ∃ T, T = compL g mt me vs ds [] ρ1 := ⟨_, rfl⟩
  refine ⟨fun i n H' => n = ds.length - i ∧ i ≤ ds.length ∧ ∃ M' ρ' acc accV, Ext M1 H1 M' H' ∧ M' Da ∧ H' Da = some (.lst accV) ∧ RpL X.K M' H' acc accV ∧ acc.length ≤ i ∧ Rep X.K B M' H' (wipeE ρ' vs) (L2.wipe σ vs) ∧
    Anon (wipeE ρ' vs) (L2.wipe σ vs) Da ∧ Post X B W (fun _ _ _ _ (_ : Unit) => True) M' H' σ (compL g mt me vs (ds.drop i) acc ρ') (fun _ _ => True) ∧
    (∀ acc' ρe, compL g mt me vs (ds.drop i) acc ρ' = .ok acc' ρe → T = .ok acc' ρe), ⟨_, rfl, Nat.zero_le _, fun b => M1 b ∨ b = Da, ρ1, [], [], Ext.newO hD, .inr rfl, upd_same, .nil, Nat.le_refl _, (r1.allocO hD).wipe vs, (r1.anon_new (X := X) hD).wipe vs, ?_, fun _ _ e => hT.trans e⟩, ?_⟩
  · have e0 : ds.drop 0 = ds := rfl
    rw [e0]
    cases e : compL g mt me vs ds [] ρ1 with
    | ok a ρe => exact fun _ _ _ _ _ _ => trivial
    | exc x ρe =>
      have noexc : ∀ (ds acc : List D) (ρ : Env) x ρe, compL g mt me vs ds acc ρ ≠ .exc x ρe := by
        intro ds
        induction ds with
        | nil => intro acc ρ x ρe z; cases z
        | cons d ds ih =>
          intro acc ρ x ρe z
          unfold compL at z
          cases eg : g d (wipeE ρ vs) with
          | none => simp only [eg] at z; cases z
          | some ρ2 =>
            simp only [eg] at z
            cases et : mt ρ2 with
            | bad => simp only [et, Res.noexc, Res.bind] at z; cases z
            | exc _ _ => simp only [et, Res.noexc, Res.bind] at z; cases z
            | ok b ρ3 =>
              simp only [et, Res.noexc, Res.bind] at z
              cases b with
              | false => simp only [Bool.false_eq_true, if_false] at z; exact ih _ _ _ _ z
              | true =>
                simp only [if_true] at z
                cases em : me ρ3 with
                | bad => simp only [em] at z; cases z
                | exc _ _ => simp only [em] at z; cases z
                | ok y ρ4 => simp only [em] at z; exact ih _ _ _ _ z
      exact absurd e (noexc ds [] ρ1 x ρe)
    | bad => rw [e] at k1; exact k1.elim
  · rintro i n H2 ⟨rfl, hi, M2, ρ2, acc, accV, x2, mD, hDa, racc, hacc, r2, an2, pk, back⟩
    obtain ⟨stop, go⟩ := q1.1 M2 H2 x2
    cases hd : ds[i]? with
    | none =>
      have hl : ds.length ≤ i := List.getElem?_eq_none_iff.mp hd
      rw [List.drop_eq_nil_of_le hl] at back
      refine .inl ⟨stop i hl, ?_⟩
      have e := back acc ρ2 rfl
      rw [← hT, e] at k1
      have rb := r1.back x2 vs r2
      rw [back_wipe] at rb
      refine k1 M2 H2 (.ref Da) x2 rb ⟨Da, rfl, ⟨mD, Nat.le_trans hacc (Nat.le_trans hi q1.2), accV, hDa, racc⟩, hbD, ?_, npD⟩
      intro j s hj ho hv
      obtain ⟨a, d, e1, w, _⟩ := (rb.slot j s hj).own ho
      rw [of_join hv] at e1
      cases e1
      -- the slots of the block are values; the others are as they were
      have key : ∀ us : List Nat, ∀ j s, (backE ρ1 us (wipeE ρ2 vs))[j]? = some s → isOwn s = true → (wipeE ρ2 vs)[j]? = some s ∧ j ∉ us := by
        intro us
        induction us with
        | nil => exact fun j s h _ => ⟨h, by simp⟩
        | cons u us ih =>
          intro j s h ho
          unfold backE at h
          by_cases e : j = u
          · subst e
            by_cases hl : j < (backE ρ1 us (wipeE ρ2 vs)).length
            · rw [List.getElem?_set_self hl] at h
              cases h
              cases q : (ρ1[j]?.getD .no) <;> rw [q] at ho <;> cases ho
            · rw [List.getElem?_eq_none (by simpa using hl)] at h; cases h
          · rw [List.getElem?_set_ne (Ne.symm e)] at h
            obtain ⟨a1, a2⟩ := ih j s h ho
            exact ⟨a1, by simp [e, a2]⟩
      obtain ⟨h1, h2⟩ := key vs j s hj ho
      refine an2 j s h1 ho ?_
      rw [wipe_out h2]
      exact hv
    | some d =>
      obtain ⟨hl, e⟩ := List.getElem?_eq_some_iff.mp hd
      rw [List.drop_eq_getElem_cons hl, e] at pk back
      obtain ⟨g1, yl⟩ := go i d hd
      refine .inr ⟨g1, fun H' => i + 1 ≤ ds.length ∧ ∃ M' ρ' acc accV, Ext M1 H1 M' H' ∧ M' Da ∧ H' Da = some (.lst accV) ∧ RpL X.K M' H' acc accV ∧ acc.length ≤ i + 1 ∧ Rep X.K B M' H' (wipeE ρ' vs) (L2.wipe σ vs) ∧
        Anon (wipeE ρ' vs) (L2.wipe σ vs) Da ∧ Post X B W (fun _ _ _ _ (_ : Unit) => True) M' H' σ (compL g mt me vs (ds.drop (i + 1)) acc ρ') (fun _ _ => True) ∧
        (∀ acc' ρe, compL g mt me vs (ds.drop (i + 1)) acc ρ' = .ok acc' ρe → T = .ok acc' ρe), fun H' z => ⟨ds.length - (i + 1), by omega, rfl, z⟩, fun x H3 hy => ?_⟩
      obtain ⟨keep, rx⟩ := yl x H3 hy
      have xk : Ext M2 H2 M2 H3 := fun b o eb _ => ⟨keep b o eb, fun n => n⟩
      have r3 : Rep X.K (B.with Da (.lst accV)) M2 H3 (wipeE ρ2 vs) (L2.wipe σ vs) := (r2.prot mD hDa an2).grow xk keep (fun _ z => z) (fun _ z => .inl z) fun b z => by
        cases q : H2 b with
        | none => exact absurd q (r2.trk b z)
        | some o => rw [keep b o q]; simp
      unfold compL at pk back
      cases eg : g d (wipeE ρ2 vs) with
      | none => simp only [eg] at pk; exact pk.elim
      | some ρ3 =>
        simp only [eg] at pk back
        refine ⟨_, M2, _, ρ3, d, r3, rx, eg, fun σ3 r4 on => ⟨wipe_ext on, _, M2, ρ3, r4, ?_⟩⟩
        cases et : mt ρ3 with
        | bad => simp only [et, Res.noexc, Res.bind] at pk; exact pk.elim
        | exc _ _ => simp only [et, Res.noexc, Res.bind] at pk; exact pk.elim
        | ok b ρ4 =>
          simp only [et, Res.noexc, Res.bind] at pk back
          intro M4 H4 b' x4 r5 eb
          cases eb
          have fin : ∀ (ρ5 : Env) (M5 : Addr → Prop) (H5 : Hp) (acc5 : List D) (accV5 : List V), Ext M2 H2 M5 H5 → M5 Da → H5 Da = some (.lst accV5) → RpL X.K M5 H5 acc5 accV5 → acc5.length ≤ i + 1 → Rep X.K B M5 H5 ρ5 σ3 → Anon ρ5 σ3 Da →
              Post X B W (fun _ _ _ _ (_ : Unit) => True) M2 H2 σ (compL g mt me vs (ds.drop (i + 1)) acc5 ρ5) (fun _ _ => True) → (∀ acc' ρe, compL g mt me vs (ds.drop (i + 1)) acc5 ρ5 = .ok acc' ρe → T = .ok acc' ρe) →
              i + 1 ≤ ds.length ∧ ∃ M' ρ' acc accV, Ext M1 H1 M' H5 ∧ M' Da ∧ H5 Da = some (.lst accV) ∧ RpL X.K M' H5 acc accV ∧ acc.length ≤ i + 1 ∧ Rep X.K B M' H5 (wipeE ρ' vs) (L2.wipe σ vs) ∧
                Anon (wipeE ρ' vs) (L2.wipe σ vs) Da ∧ Post X B W (fun _ _ _ _ (_ : Unit) => True) M' H5 σ (compL g mt me vs (ds.drop (i + 1)) acc ρ') (fun _ _ => True) ∧
                (∀ acc' ρe, compL g mt me vs (ds.drop (i + 1)) acc ρ' = .ok acc' ρe → T = .ok acc' ρe) := by
            intro ρ5 M5 H5 acc5 accV5 x5 m5 h5 ra5 l5 r6 an6 pk5 back5
            have rw5 := r6.wipe vs
            have aw5 := an6.wipe vs
            rw [wipe_ext on] at rw5 aw5
            exact ⟨hl, M5, ρ5, acc5, accV5, x2.trans x5, m5, h5, ra5, l5, rw5, aw5, Post.shift x5 pk5, back5⟩
          cases b with
          | false =>
            simp only [Bool.false_eq_true, if_false] at pk back
            obtain ⟨u1, u2, u3, u4⟩ := r5.unprot
            exact iteF (fin ρ4 M4 H4 acc accV (xk.trans x4) u2 u3 (RpL.ext (xk.trans x4) racc) (Nat.le_succ_of_le hacc) u1 u4 pk back)
          | true =>
            simp only [if_true] at pk back
            refine iteT ⟨_, M4, ρ4, r5, ?_⟩
            cases em : me ρ4 with
            | bad => simp only [em] at pk; exact pk.elim
            | exc _ _ => simp only [em] at pk; exact pk.elim
            | ok z ρ5 =>
              simp only [em] at pk back
              intro M5 H5 zv x5 r6 rz
              obtain ⟨u1, u2, u3, u4⟩ := r6.unprot
              have x25 := (xk.trans x4).trans x5
              have lacc := (RpL.length racc)
              refine ⟨accV, u3, by rw [← lacc]; have := q1.2; omega, ?_⟩
              have xw : Ext M5 H5 M5 (upd H5 Da (.lst (accV ++ [zv]))) := Ext.write u2 u3 fun z => z
              exact fin ρ5 M5 _ (acc ++ [z]) (accV ++ [zv]) (x25.trans xw) u2 upd_same (RpL.append (RpL.ext (x25.trans xw) racc) (.cons (Rp.ext xw rz) .nil)) (by rw [List.length_append]; exact Nat.succ_le_succ hacc)
                (u1.writeAnon u2 u3 u4 hbD npD fun z => z) u4 pk back
theorem df_comp {elt tg iter : Expr} {ifs : List Expr} {scope : Scope} {own : List (Str × Nat)} {pos : Pos} {mi : Env → Res (List D)} {g : D → Env → Option Env} {mt : TM} {me : EM} {vs : List Nat} (c : Cd X) (hN : X.N.Nodup) (hi : DI X W tg iter mi) (ok : BlkOk X.N X.env.scope scope own)
    (hg : ∀ (s : Shared) (H : Hp) (C : Addr) (cl : List (Str × Addr)) (fp : List Addr), DG (X.blk s H scope (compEnvC scope cl C X.env) fp) tg g vs)
    (ht : ∀ (s : Shared) (H : Hp) (C : Addr) (cl : List (Str × Addr)) (fp : List Addr), DTs (X.blk s H scope (compEnvC scope cl C X.env) fp) (fun _ _ _ _ => False) ifs mt)
    (he : ∀ (s : Shared) (H : Hp) (C : Addr) (cl : List (Str × Addr)) (fp : List Addr), DE (X.blk s H scope (compEnvC scope cl C X.env) fp) (fun _ _ _ _ => False) elt me) (ev : own.map (·.2) = vs := by rfl) (hs : ∀ x, foldedSetIterable iter X.env x = pure x := by intro _; rfl) :
    DF X W (.ListComp elt [⟨tg, iter, ifs, 0⟩] scope pos) (eComp mi g mt me vs) := by
  obtain ⟨wi, pi, si⟩ := hi
  subst ev
  exact ⟨_, pe_lc (tt := ttCan X (fun _ _ _ _ => False) mt) c.calm hN pi ok (fun s H C cl fp => can_g (hg s H C cl fp)) (fun s H C cl fp => ht s H C cl fp) (fun s H C cl fp => can_e (he s H C cl fp)) hs, comp_sat si⟩
end
end NV

set_option Elab.async false
set_option linter.all false
set_option maxRecDepth 100000
set_option maxHeartbeats 4000000
/-! Core7: defs and their calls. -/
namespace NV
open PySem PySem.Spec PyProof.Rows L2

/-- what a def does: its answer, what its owned parameters hold then -/
inductive FRes where
  | ok (r : D) (os : List D)
  | okF (r : D) (os : List D)
  | exc (x : Exn) (os : List D)
  | bad

def ArgR (K : PySem.W.Frag) (M : Addr → Prop) (H : Hp) : List Bool → List D → List V → List Addr → Prop
  | [], [], [], [] => True
  | false :: fs, d :: ds, v :: vs, as => Rp K M H d v ∧ ArgR K M H fs ds vs as
  | true :: fs, d :: ds, v :: vs, a :: as => v = .ref a ∧ Ow K M H d a ∧ ArgR K M H fs ds vs as
  | _, _, _, _ => False
def Kept (as : List Addr) (H H' : Hp) : Prop := ∀ b o, H b = some o → b ∉ as → H' b = some o
/-- the promise of a def that does F; fl: which parameters are owned -/
def spF (K : PySem.W.Frag) (mg : Str → Option Value) (fl : List Bool) (F : List D → FRes) : Sp := fun vs H Q E => ∃ (M : Addr → Prop) (ds : List D) (as : List Addr), (∀ b, M b → H b ≠ none) ∧ as.Nodup ∧ ArgR K M H fl ds vs as ∧ match F ds with
  | .ok r os => ∀ H' v, Kept as H H' → Paired (Ow K M H') os as → Rp K M H' r v → Q v H'
  | .okF r os => ∀ H' a, Kept as H H' → H a = none → Paired (Ow K (fun b => M b ∨ b = a) H') os as → Ow K (fun b => M b ∨ b = a) H' r a → Q (.ref a) H'
  | .exc x os => ∀ H' c dx, Kept as H H' → Paired (Ow K M H') os as → ExR K mg M H' x c dx → E c dx H'
  | .bad => False

/-! ### a body -/
def slotsOf : List Bool → List D → Env
  | false :: fs, d :: ds => .v d :: slotsOf fs ds
  | true :: fs, d :: ds => .p d :: slotsOf fs ds
  | _, _ => []
def owns : List Bool → Env → Option (List D)
  | [], _ => some []
  | false :: fs, _ :: ρ => owns fs ρ
  | true :: fs, .p d :: ρ => (owns fs ρ).map fun ds => d :: ds
  | _, _ => none
def fin (fl : List Bool) (f : List D → FRes) (ρ : Env) : FRes := match owns fl ρ with
  | some os => f os
  | none => .bad
def runF (fl : List Bool) (n : Nat) (m : SM) (ds : List D) : FRes := if ds.length = fl.length then match m (slotsOf fl ds ++ List.replicate (n - ds.length) .no) with
  | .nx ρ => fin fl (.ok .non) ρ
  | .rt d ρ => fin fl (.ok d) ρ
  | .rtF d ρ => fin fl (.okF d) ρ
  | .exc x ρ => fin fl (.exc x) ρ
  | _ => .bad else .bad

section
variable {K : PySem.W.Frag} {M M' : Addr → Prop} {H H' : Hp}
theorem ArgR.len : ∀ {fl : List Bool} {ds : List D} {vs : List V} {as : List Addr}, ArgR K M H fl ds vs as → vs.length = fl.length ∧ ds.length = fl.length
  | [], [], [], [], _ => ⟨rfl, rfl⟩
  | false :: fs, d :: ds, v :: vs, as, h => by
    obtain ⟨_, h⟩ := h
    obtain ⟨a, b⟩ := ArgR.len h
    exact ⟨by simp [a], by simp [b]⟩
  | true :: fs, d :: ds, v :: vs, a :: as, h => by
    obtain ⟨_, _, h⟩ := h
    obtain ⟨a, b⟩ := ArgR.len h
    exact ⟨by simp [a], by simp [b]⟩
/-- where the owned parameters stand -/
def paOf : List Bool → List Addr → Nat → Option Addr
  | [], _, _ => none
  | false :: fs, as, 0 => none
  | false :: fs, as, i + 1 => paOf fs as i
  | true :: fs, [], _ => none
  | true :: fs, a :: as, 0 => some a
  | true :: fs, a :: as, i + 1 => paOf fs as i
theorem paOf_mem : ∀ {fl : List Bool} {as : List Addr} {i : Nat} {a : Addr}, paOf fl as i = some a → a ∈ as
  | [], _, _, _, h => by cases h
  | false :: fs, as, 0, _, h => by cases h
  | false :: fs, as, i + 1, _, h => paOf_mem (fl := fs) h
  | true :: fs, [], _, _, h => by cases h
  | true :: fs, b :: as, 0, _, h => by cases h; exact List.mem_cons_self
  | true :: fs, b :: as, i + 1, _, h => List.mem_cons_of_mem _ (paOf_mem (fl := fs) h)
theorem paOf_inj : ∀ {fl : List Bool} {as : List Addr} {i j : Nat} {a : Addr}, as.Nodup → paOf fl as i = some a → paOf fl as j = some a → i = j
  | [], _, _, _, _, _, h, _ => by cases h
  | false :: fs, as, 0, _, _, _, h, _ => by cases h
  | false :: fs, as, i + 1, 0, _, _, _, h => by cases h
  | false :: fs, as, i + 1, j + 1, _, n, h1, h2 => congrArg _ (paOf_inj (fl := fs) n h1 h2)
  | true :: fs, [], _, _, _, _, h, _ => by cases h
  | true :: fs, b :: as, 0, 0, _, _, _, _ => rfl
  | true :: fs, b :: as, 0, j + 1, _, n, h1, h2 => by
    cases h1
    exact absurd (paOf_mem (fl := fs) h2) (List.nodup_cons.mp n).1
  | true :: fs, b :: as, i + 1, 0, _, n, h1, h2 => by
    cases h2
    exact absurd (paOf_mem (fl := fs) h1) (List.nodup_cons.mp n).1
  | true :: fs, b :: as, i + 1, j + 1, _, n, h1, h2 => congrArg _ (paOf_inj (fl := fs) (List.nodup_cons.mp n).2 h1 h2)
theorem ArgR.slot {n : Nat} : ∀ {fl : List Bool} {ds : List D} {vs : List V} {as : List Addr}, ArgR K M H fl ds vs as → ∀ (i : Nat) (s : Slot), (slotsOf fl ds ++ List.replicate n .no)[i]? = some s →
    match s with
    | .no => True
    | .v d => ∃ v, vs[i]? = some v ∧ Rp K M H d v
    | .p d => ∃ a, vs[i]? = some (.ref a) ∧ Ow K M H d a ∧ paOf fl as i = some a
    | .o _ => False
  | [], [], [], [], _, i, s, h => by
    have h : (List.replicate n Slot.no)[i]? = some s := h
    rw [List.getElem?_replicate] at h
    split at h <;> cases h
    trivial
  | false :: fs, d :: ds, v :: vs, as, hh, 0, s, h => by
    cases h
    exact ⟨v, rfl, hh.1⟩
  | false :: fs, d :: ds, v :: vs, as, hh, i + 1, s, h => by
    have q := ArgR.slot (n := n) hh.2 i s (by simpa [slotsOf] using h)
    cases s <;> exact q
  | true :: fs, d :: ds, v :: vs, a :: as, hh, 0, s, h => by
    cases h
    obtain ⟨e, w, _⟩ := hh
    subst e
    exact ⟨a, rfl, w, rfl⟩
  | true :: fs, d :: ds, v :: vs, a :: as, hh, i + 1, s, h => by
    have q := ArgR.slot (n := n) hh.2.2 i s (by simpa [slotsOf] using h)
    cases s <;> exact q
theorem slotsOf_length : ∀ {fl : List Bool} {ds : List D}, ds.length = fl.length → (slotsOf fl ds).length = fl.length
  | [], [], _ => rfl
  | false :: fs, d :: ds, h => by simp [slotsOf, slotsOf_length (fl := fs) (ds := ds) (by simpa using h)]
  | true :: fs, d :: ds, h => by simp [slotsOf, slotsOf_length (fl := fs) (ds := ds) (by simpa using h)]
theorem as_len : ∀ {fl : List Bool} {ds : List D} {vs : List V} {as : List Addr}, ArgR K M H fl ds vs as → ∀ a ∈ as, ∃ i, paOf fl as i = some a
  | [], [], [], [], _, a, h => by cases h
  | false :: fs, d :: ds, v :: vs, as, hh, a, h => by
    obtain ⟨i, e⟩ := as_len hh.2 a h
    exact ⟨i + 1, e⟩
  | true :: fs, d :: ds, v :: vs, b :: as, hh, a, h => by
    rcases List.mem_cons.mp h with e | h
    · subst e; exact ⟨0, rfl⟩
    · obtain ⟨i, e⟩ := as_len hh.2.2 a h
      exact ⟨i + 1, e⟩
/-- the owned parameters' contents at the end -/
theorem owns_rep {fl0 : List Bool} {as0 : List Addr} : ∀ {fl : List Bool} {as : List Addr} {ds : List D} {vs : List V} {ρ : Env} {os : List D} (k : Nat), ArgR K M H fl ds vs as → (∀ i, paOf fl as i = paOf fl0 as0 (i + k)) → owns fl ρ = some os →
    (∀ i s, ρ[i]? = some s → ∀ d, s = .p d → ∃ a, Ow K M' H' d a ∧ paOf fl0 as0 (i + k) = some a) → Paired (Ow K M' H') os as
  | [], as, ds, vs, ρ, os, k, hh, _, h, _ => by
    cases ds <;> cases vs <;> cases as <;> first | exact hh.elim | (cases h; exact .nil)
  | false :: fs, as, [], vs, ρ, os, k, hh, hp, h, hs => hh.elim
  | false :: fs, as, d :: ds, [], ρ, os, k, hh, hp, h, hs => hh.elim
  | true :: fs, as, [], vs, ρ, os, k, hh, hp, h, hs => hh.elim
  | true :: fs, as, d :: ds, [], ρ, os, k, hh, hp, h, hs => hh.elim
  | true :: fs, [], d :: ds, v :: vs, ρ, os, k, hh, hp, h, hs => hh.elim
  | false :: fs, as, d :: ds, v :: vs, ρ, os, k, hh, hp, h, hs => by
    cases ρ with
    | nil => cases h
    | cons s ρ =>
      have hs' : ∀ i s, ρ[i]? = some s → ∀ d, s = .p d → ∃ a, Ow K M' H' d a ∧ paOf fl0 as0 (i + (k + 1)) = some a := by
        intro i s hi d e
        have q := hs (i + 1) s (by simpa using hi) d e
        rw [show i + (k + 1) = (i + 1) + k by omega]
        exact q
      have hp' : ∀ i, paOf fs as i = paOf fl0 as0 (i + (k + 1)) := by
        intro i
        rw [show i + (k + 1) = (i + 1) + k by omega, ← hp (i + 1)]
        rfl
      exact owns_rep (k + 1) hh.2 hp' h hs'
  | true :: fs, a :: as, d :: ds, v :: vs, ρ, os, k, hh, hp, h, hs => by
    cases ρ with
    | nil => cases h
    | cons s ρ =>
      cases s with
      | p x =>
        unfold owns at h
        cases e : owns fs ρ with
        | none => rw [e] at h; cases h
        | some os' =>
          rw [e] at h
          cases h
          have hs' : ∀ i s, ρ[i]? = some s → ∀ d, s = .p d → ∃ a, Ow K M' H' d a ∧ paOf fl0 as0 (i + (k + 1)) = some a := by
            intro i s hi d e
            have q := hs (i + 1) s (by simpa using hi) d e
            rw [show i + (k + 1) = (i + 1) + k by omega]
            exact q
          have hp' : ∀ i, paOf fs as i = paOf fl0 as0 (i + (k + 1)) := by
            intro i
            rw [show i + (k + 1) = (i + 1) + k by omega, ← hp (i + 1)]
            rfl
          refine .cons ?_ (owns_rep (k + 1) hh.2.2 hp' e hs')
          obtain ⟨a', w, e'⟩ := hs 0 _ rfl x rfl
          have e2 := hp 0
          rw [e'] at e2
          have e2 : some a = some a' := e2
          cases e2
          exact w
      | _ => cases h
end
theorem start_get {N : List Str} {vs : List V} {i : Nat} : (L2.start N vs)[i]?.join = vs[i]? := by
  unfold L2.start
  by_cases h : i < vs.length
  · rw [List.getElem?_append_left (by simpa using h), List.getElem?_map, List.getElem?_eq_getElem h]
    rfl
  · rw [List.getElem?_append_right (by simpa using h), List.getElem?_replicate, List.getElem?_eq_none (by omega)]
    split <;> rfl
/-- THE RULE for a def -/
theorem fn_def {P : Program} {w : World} {K : PySem.W.Frag} {mg : Str → Option Value} {base : Heap} {x qual : Str} {st : Stmt} {f : Addr} {fd : FuncData} {N ps : List Str} {k : Nat} {fl : List Bool} {m : SM} (F : L2.Fun K x qual st f fd) (S : FnScope N ps (defScope st)) (hf : fl.length = ps.length)
    (der : ∀ (cdv : Value) (A : Around) (outer : List PySem.Env) (s : Shared) (H : Hp) (E : XK), Room k (A.deeper (envOfC qual (defScope st) s.heap.objs.size f cdv)) →
      DSs (cxOf (L2.CX P w) P w K mg base N qual (defScope st) f cdv A outer s H E) (fun c dx _ H' => E c dx H') (defBody st) m) : FnOk P w K mg base (L2.CX P w) (k + 1) f fd ps (spF K mg fl (runF fl N.length m)) := by
  refine Fun.okX F S (fun vs H Q E ⟨M, ds, as, _, _, h, _⟩ => by rw [h.len.1, hf]) fun cdv A outer s H vs Q E hr ⟨M, ds, as, mt, nd, ha, hsp⟩ => ?_
  obtain ⟨t, pt, sat⟩ := der cdv A outer s H E hr
  refine ⟨t, pt, ?_⟩
  obtain ⟨lv, ld⟩ := ha.len
  have hN : ps.length ≤ N.length := by have := congrArg List.length S.pre; rw [List.length_take] at this; omega
  have X0 : (cxOf (L2.CX P w) P w K mg base N qual (defScope st) f cdv A outer s H E).K = K := rfl
  have X1 : (cxOf (L2.CX P w) P w K mg base N qual (defScope st) f cdv A outer s H E).mg = mg := rfl
  have rep : Rep K ⟨M, H, paOf fl as, [], mt⟩ M H (slotsOf fl ds ++ List.replicate (N.length - ds.length) .no) (L2.start N vs) := by
    refine ⟨fun b o e _ => e, fun b h => h, fun b h => h, fun b h => .inl h, mt, ?_, fun i s hi => ?_, fun i j s t a ne hi hj hs ht vi vj => ?_, fun p hp => by cases hp⟩
    · unfold L2.start
      rw [List.length_append, List.length_append, slotsOf_length ld, List.length_map, List.length_replicate, List.length_replicate, lv, ld]
    · rw [start_get]
      have q := ha.slot (n := N.length - ds.length) i s hi
      cases s with
      | no => trivial
      | v d => exact q
      | o d => exact q.elim
      | p d => exact q
    · have q1 := ha.slot (n := N.length - ds.length) i s hi
      have q2 := ha.slot (n := N.length - ds.length) j t hj
      cases s with
      | p d =>
        cases t with
        | p e =>
          obtain ⟨a1, e1, _, p1⟩ := q1
          obtain ⟨a2, e2, _, p2⟩ := q2
          rw [← start_get (N := N), of_join vi] at e1
          rw [← start_get (N := N), of_join vj] at e2
          cases e1
          cases e2
          exact ne (paOf_inj nd p1 p2)
        | no => cases ht
        | v _ => cases ht
        | o _ => exact q2.elim
      | no => cases hs
      | v _ => cases hs
      | o _ => exact q1.elim
  refine sat _ M H _ (L2.start N vs) _ rep ?_
  unfold runF at hsp
  rw [if_pos ld] at hsp
  have keep : ∀ {M' : Addr → Prop} {H' : Hp} {ρ : Env} {σ' : St}, Rep K ⟨M, H, paOf fl as, [], mt⟩ M' H' ρ σ' → Kept as H H' := fun r b o e hb => r.keep b o e fun i hi => hb (paOf_mem hi)
  have own : ∀ {M' : Addr → Prop} {H' : Hp} {ρ : Env} {σ' : St} {os : List D}, Rep K ⟨M, H, paOf fl as, [], mt⟩ M' H' ρ σ' → owns fl ρ = some os → Paired (Ow K M' H') os as := fun {M' H' ρ σ' os} r ho =>
    owns_rep (fl0 := fl) (as0 := as) 0 ha (fun i => rfl) ho fun i s hi d e => by
      subst e
      obtain ⟨a, _, w, pa⟩ := r.slot i _ hi
      exact ⟨a, w, pa⟩
  have down : ∀ {M' M2 : Addr → Prop} {H' : Hp} {os : List D}, (∀ b, M2 b → M' b) → (∀ a ∈ as, M2 a) → Paired (Ow K M' H') os as → Paired (Ow K M2 H') os as := by
    intro M' M2 H' os hsub hm h
    have x : Ext M' H' M2 H' := Ext.sub hsub
    have go : ∀ (os : List D) (as : List Addr), (∀ a ∈ as, M2 a) → Paired (Ow K M' H') os as → Paired (Ow K M2 H') os as := by
      intro os as hm h
      induction h with
      | nil => exact .nil
      | cons a b ih => exact .cons (a.ext x (hm _ List.mem_cons_self) rfl) (ih fun c hc => hm c (List.mem_cons_of_mem _ hc))
    exact go os as hm h
  have asM : ∀ a ∈ as, M a := fun a h => by
    obtain ⟨i, e⟩ := as_len ha a h
    -- the parameter's own slot
    have go : ∀ {fl : List Bool} {ds : List D} {vs : List V} {as : List Addr}, ArgR K M H fl ds vs as → ∀ a ∈ as, M a := by
      intro fl
      induction fl with
      | nil => intro ds vs as h a hm; cases ds <;> cases vs <;> cases as <;> first | exact h.elim | (cases hm; done)
      | cons b fl ih =>
        intro ds vs as h a hm
        cases b with
        | false => cases ds <;> cases vs <;> first | exact h.elim | exact ih h.2 a hm
        | true =>
          cases ds <;> cases vs <;> cases as <;> first | exact h.elim | skip
          rcases List.mem_cons.mp hm with e | hm
          · subst e; exact h.2.1.mem
          · exact ih h.2.2 a hm
    exact go ha a h
  cases em : m (slotsOf fl ds ++ List.replicate (N.length - ds.length) .no) with
  | nx ρ =>
    rw [em] at hsp
    unfold fin at hsp
    cases eo : owns fl ρ with
    | none => simp only [eo] at hsp
    | some os =>
      simp only [eo] at hsp
      exact fun M' H' σ' x r => hsp H' .non (keep r) (down (fun b h => r.sub b h) asM (own r eo)) .non
  | rt d ρ =>
    rw [em] at hsp
    unfold fin at hsp
    cases eo : owns fl ρ with
    | none => simp only [eo] at hsp
    | some os =>
      simp only [eo] at hsp
      exact fun M' H' σ' v x r q => hsp H' v (keep r) (down (fun b h => r.sub b h) asM (own r eo)) (Rp.ext (Ext.sub fun b h => r.sub b h) q)
  | rtF d ρ =>
    rw [em] at hsp
    unfold fin at hsp
    cases eo : owns fl ρ with
    | none => simp only [eo] at hsp
    | some os =>
      simp only [eo] at hsp
      intro M' H' σ' v x r ⟨a, ev, w, hb, an, _⟩
      subst ev
      have hsub : ∀ b, M b ∨ b = a → M' b := fun b h => h.elim (r.sub b) fun e => e ▸ w.mem
      exact hsp H' a (keep r) hb (down hsub (fun b h => .inl (asM b h)) (own r eo)) (w.ext (Ext.sub hsub) (.inr rfl) rfl)
  | exc xx ρ =>
    rw [em] at hsp
    unfold fin at hsp
    cases eo : owns fl ρ with
    | none => simp only [eo] at hsp
    | some os =>
      simp only [eo] at hsp
      refine fun M' H' σ' c dx x r q => hsp H' c dx (keep r) (down (fun b h => r.sub b h) asM (own r eo)) ?_
      obtain ⟨C, h1, h2, h3⟩ := q
      refine ⟨C, h1, h2, ?_⟩
      split at h3
      · exact h3
      · obtain ⟨a, v, e1, e2, e3⟩ := h3
        exact ⟨a, v, e1, e2, Rp.ext (Ext.sub fun b h => r.sub b h) e3⟩
      · exact h3
  | bk ρ => rw [em] at hsp; exact hsp.elim
  | ct ρ => rw [em] at hsp; exact hsp.elim
  | bad => rw [em] at hsp; exact hsp.elim
theorem fn_bad {P : Program} {w : World} {K : PySem.W.Frag} {mg : Str → Option Value} {base : Heap} {f : Addr} {fd : FuncData} {ps : List Str} {k : Nat} {fl : List Bool} : FnOk P w K mg base (L2.CX P w) k f fd ps (spF K mg fl fun _ => .bad) :=
  ⟨fun _ _ _ _ ⟨_, _, _, _, _, _, h⟩ => h.elim, fun _ _ _ _ _ _ _ _ _ _ _ _ _ ⟨_, _, _, _, _, _, h⟩ => h.elim⟩
end NV

set_option Elab.async false
set_option linter.all false
set_option maxRecDepth 100000
set_option maxHeartbeats 4000000
/-! Core8: calls of defs. -/
namespace NV
open PySem PySem.Spec PyProof.Rows L2

/-! ### data without lists inside -/
mutual
def D.flat : D → Bool
  | .tup xs => flatL xs
  | .lst _ => false
  | .dct _ => false
  | _ => true
def flatL : List D → Bool
  | [] => true
  | d :: ds => d.flat && flatL ds
end
/-- an owned object with flat contents -/
def D.flatO : D → Bool
  | .lst xs => flatL xs
  | _ => false
section
variable {K : PySem.W.Frag} {M M' : Addr → Prop} {H : Hp}
mutual
theorem Rp.flat : ∀ {d : D} {v : V}, Rp K M H d v → d.flat = true → Rp K M' H d v
  | .non, _, h, _ => by cases h; exact .non
  | .bl b, _, h, _ => by cases h; exact .bl b
  | .int i, _, h, _ => by cases h; exact .int i
  | .str z, _, h, _ => by
    cases h with
    | str g => exact .str g
  | .tup ds, _, h, f => by
    cases h with
    | tup l s q => exact .tup l s (RpL.flat q f)
  | .lst ds, _, h, f => by cases f
  | .dct kvs, _, h, f => by cases f
  | .exn _ _, _, h, _ => by cases h
  | .scr xs, _, h, _ => by
    cases h with
    | scr l s => exact .scr l s
theorem RpL.flat : ∀ {ds : List D} {vs : List V}, RpL K M H ds vs → flatL ds = true → RpL K M' H ds vs
  | [], _, h, _ => by cases h; exact .nil
  | d :: ds, _, h, f => by
    cases h with
    | cons a b =>
      unfold flatL at f
      rw [Bool.and_eq_true] at f
      exact .cons (Rp.flat a f.1) (RpL.flat b f.2)
end
theorem Ow.flat {d : D} {a : Addr} (w : Ow K M H d a) (f : d.flatO = true) (hm : M' a) : Ow K M' H d a := by
  cases d with
  | lst ds => obtain ⟨_, l, vs, e, q⟩ := w; exact ⟨hm, l, vs, e, q.flat f⟩
  | _ => cases f
end

/-! ### the arguments -/
def ownIdx : List Bool → List RV → Option (List Nat)
  | [], [] => some []
  | false :: fs, _ :: rs => ownIdx fs rs
  | true :: fs, .own i :: rs => (ownIdx fs rs).map fun is => i :: is
  | _, _ => none
/-- owned objects that are only lent -/
def lent : List Bool → List RV → List Nat
  | false :: fs, .own i :: rs => i :: lent fs rs
  | false :: fs, _ :: rs => lent fs rs
  | true :: fs, _ :: rs => lent fs rs
  | _, _ => []
def upO (ρ : Env) : List Nat → List D → Option Env
  | [], [] => some ρ
  | [i], [d] => some (ownSet ρ i d)
  | _, _ => none
def lentOk (l : List Nat) (r : D) (os : List D) : Bool := l.isEmpty || (r.flat && os.all D.flatO)
def lentOkF (l : List Nat) (r : D) (os : List D) : Bool := l.isEmpty || (r.flatO && os.all D.flatO)
/-- behind the arguments of a call of F -/
def callG (fl : List Bool) (fr : Bool) (F : List D → FRes) (rs : List RV) (ρ : Env) : Res D := match getAll ρ rs, ownIdx fl rs with
  | some ds, some is => if (is.length ≤ 1 && is.all fun i => !(lent fl rs).contains i) = true then match F ds with
      | .ok r os => if fr = false ∧ lentOk (lent fl rs) r os = true then ofO (upO ρ is os) ρ |>.bind fun ρ' _ => .ok r ρ' else .bad
      | .okF r os => if fr = true ∧ lentOkF (lent fl rs) r os = true then ofO (upO ρ is os) ρ |>.bind fun ρ' _ => .ok r ρ' else .bad
      | .exc x os => if lentOk (lent fl rs) (.tup x.fs) os = true then ofO (upO ρ is os) ρ |>.bind fun ρ' _ => .exc x ρ' else .bad
      | .bad => .bad
    else .bad
  | _, _ => .bad
def eCall (fl : List Bool) (fr : Bool) (F : List D → FRes) (ma : AM) : EM := fun ρ => (ma ρ).bind (callG fl fr F)

section
variable {K : PySem.W.Frag} {B : Base} {M M' : Addr → Prop} {H H' : Hp} {ρ ρ2 : Env} {σ : St}
/-- the addresses of owned slots -/
inductive OwnAt (ρ : Env) (σ : St) : List Nat → List Addr → Prop
  | nil : OwnAt ρ σ [] []
  | cons {i : Nat} {s : Slot} {a : Addr} {is : List Nat} {as : List Addr} : ρ[i]? = some s → isOwn s = true → σ[i]? = some (some (V.ref a)) → OwnAt ρ σ is as → OwnAt ρ σ (i :: is) (a :: as)
theorem OwnAt.length {is : List Nat} {as : List Addr} (h : OwnAt ρ σ is as) : is.length = as.length := by
  induction h with
  | nil => rfl
  | cons _ _ _ _ ih => simp [ih]
/-- behind a call -/
theorem Rep.called (r : Rep K B M H ρ σ) {is : List Nat} {as : List Addr} {os : List D} (hi : OwnAt ρ σ is as) (hk : Kept as H H') (hm : ∀ b, M b → M' b) (hn : ∀ b, M' b → M b ∨ H b = none) (ht : ∀ b, M' b → H' b ≠ none)
    (hp : Paired (Ow K M' H') os as) (hu : upO ρ is os = some ρ2) : Rep K B M' H' ρ2 σ ∧ Ext M H M' H' := by
  have nn : ∀ {b : Addr} {o : HO}, H b = some o → ¬ M b → ¬ M' b := fun e n m => (hn _ m).elim n fun z => by rw [z] at e; cases e
  cases hi with
  | nil =>
    cases hp
    cases hu
    have x : Ext M H M' H' := fun b o e _ => ⟨hk b o e (fun z => by cases z), nn e⟩
    exact ⟨r.grow x (fun b o e => hk b o e fun z => by cases z) hm hn ht, x⟩
  | cons h1 h2 h3 h4 =>
    rename_i i s a is as
    cases h4 with
    | cons _ _ _ _ => cases hp with | cons _ hp => cases hp with | cons _ _ => cases hu
    | nil =>
      cases hp with
      | cons w hp =>
        cases hp
        rename_i d
        obtain ⟨a', d0, e1, w0, kd⟩ := (r.slot i s h1).own h2
        rw [of_join h3] at e1
        cases e1
        obtain ⟨o0, q0, im0⟩ := w0.there
        obtain ⟨u, qu, imu⟩ := w.there
        have hx2 : ∀ b o, H b = some o → upd H' a o0 b = some o := fun b o e => by
          by_cases z : b = a
          · subst z
            rw [q0] at e
            cases e
            exact upd_same
          · rw [upd_ne z]
            exact hk b o e fun z2 => by simp at z2; exact z z2
        have r2 : Rep K B M' (upd H' a o0) ρ σ := r.grow (fun b o e _ => ⟨hx2 b o e, nn e⟩) hx2 hm hn fun b hb => by
          by_cases z : b = a
          · subst z; rw [upd_same]; intro z; cases z
          · rw [upd_ne z]; exact ht b hb
        have eH : upd (upd H' a o0) a u = H' := by
          funext b
          by_cases z : b = a
          · subst z; rw [upd_same, qu]
          · rw [upd_ne z, upd_ne z]
        have r3 := r2.mutate (u := u) (s' := reSlot s d) h1 h2 h3 (by rw [eH]; exact w) rfl
        rw [eH] at r3
        have es : ρ2 = ρ.set i (reSlot s d) := by
          have hu : ownSet ρ i d = ρ2 := by injection hu
          unfold ownSet at hu
          rw [h1] at hu
          cases s with
          | no => cases h2
          | v _ => cases h2
          | o _ => cases hu; rfl
          | p _ => cases hu; rfl
        rw [es]
        refine ⟨r3, fun b o e h => ⟨hk b o e fun z => ?_, nn e⟩⟩
        simp at z
        subst z
        rw [q0] at e
        cases e
        exact h.elim (fun n => n w0.mem) im0
def Lend (l : List Nat) (M : Addr → Prop) (σ : St) : Addr → Prop := fun b => M b ∧ ∀ j ∈ l, σ[j]? ≠ some (some (V.ref b))
theorem Lend.nil {b : Addr} (h : M b) : Lend [] M σ b := ⟨h, fun _ z => by cases z⟩
/-- the arguments as the called def takes them -/
theorem args_of {ρ' : Env} (r : Rep K B M H ρ σ) (l : List Nat) (hl : ∀ j ∈ l, ∃ s, ρ[j]? = some s ∧ isOwn s = true) : ∀ {fl : List Bool} {rs : List RV} {vs : List V} {ds : List D} {is : List Nat}, Paired (fun r v => RelR K σ M H ρ' r v) rs vs → getAll ρ rs = some ds → ownIdx fl rs = some is →
    (∀ j ∈ lent fl rs, j ∈ l) → (∀ i ∈ is, i ∉ l) → ∃ as, ArgR K (Lend l M σ) H fl ds vs as ∧ OwnAt ρ σ is as
  | [], [], vs, ds, is, h, g, o, _, _ => by
    cases h; cases g; cases o
    exact ⟨[], trivial, .nil⟩
  | [], _ :: _, vs, ds, is, h, g, o, _, _ => by cases o
  | false :: fs, [], vs, ds, is, h, g, o, _, _ => by cases o
  | true :: fs, [], vs, ds, is, h, g, o, _, _ => by cases o
  | false :: fs, x :: rs, vs, ds, is, h, g, o, hj, hi => by
    cases h with
    | cons hx h =>
      unfold getAll at g
      cases e1 : x.get ρ with
      | none => rw [e1] at g; cases g
      | some d =>
        rw [e1] at g
        cases e2 : getAll ρ rs with
        | none => rw [e2] at g; cases g
        | some ds' =>
          rw [e2] at g
          cases g
          have hj2 : ∀ j ∈ lent fs rs, j ∈ l := fun j hm => hj j (by
            cases x with
            | val _ => exact hm
            | own _ => exact List.mem_cons_of_mem _ hm)
          obtain ⟨as, q1, q2⟩ := args_of r l hl (fl := fs) h e2 o hj2 hi
          refine ⟨as, ⟨?_, q1⟩, q2⟩
          cases x with
          | val d' => cases e1; exact Rp.ext (Ext.sub fun _ z => z.1) hx
          | own j =>
            obtain ⟨a, s, h1, h2, h3, w, _⟩ := own_at r e1
            have hv : σ[j]? = some (some _) := hx
            rw [h3] at hv
            cases hv
            refine Rp.ext (Ext.sub fun b z => ⟨z.1, fun eb => ?_⟩) w.rp
            subst eb
            exact z.2 j (hj j List.mem_cons_self) h3
  | true :: fs, .val _ :: rs, vs, ds, is, h, g, o, hj, hi => by cases o
  | true :: fs, .own i :: rs, vs, ds, is, h, g, o, hj, hi => by
    cases h with
    | cons hx h =>
      unfold getAll at g
      cases e1 : (RV.own i).get ρ with
      | none => rw [e1] at g; cases g
      | some d =>
        rw [e1] at g
        cases e2 : getAll ρ rs with
        | none => rw [e2] at g; cases g
        | some ds' =>
          rw [e2] at g
          cases g
          cases e3 : ownIdx fs rs with
          | none => simp only [ownIdx, e3] at o; cases o
          | some is' =>
            simp only [ownIdx, e3] at o
            cases o
            obtain ⟨as, q1, q2⟩ := args_of r l hl (fl := fs) h e2 e3 hj fun i hm => hi i (List.mem_cons_of_mem _ hm)
            obtain ⟨a, s, h1, h2, h3, w, _⟩ := own_at r e1
            have hv : σ[i]? = some (some _) := hx
            rw [h3] at hv
            cases hv
            refine ⟨a :: as, ⟨rfl, w.ext (Ext.sub fun _ z => z.1) ⟨w.mem, fun j hm e => ?_⟩ rfl, q1⟩, .cons h1 h2 h3 q2⟩
            obtain ⟨t, t1, t2⟩ := hl j hm
            exact r.apart i j s t a (fun eij => hi i List.mem_cons_self (eij ▸ hm)) h1 t1 h2 t2 h3 e
theorem lent_own {ρ : Env} : ∀ {fl : List Bool} {rs : List RV} {ds : List D}, getAll ρ rs = some ds → ∀ j ∈ lent fl rs, ∃ s, ρ[j]? = some s ∧ isOwn s = true
  | [], _, _, _, j, h => by cases h
  | false :: _, [], _, _, j, h => by cases h
  | true :: _, [], _, _, j, h => by cases h
  | b :: fs, x :: rs, ds, g, j, h => by
    unfold getAll at g
    cases e1 : x.get ρ with
    | none => rw [e1] at g; cases g
    | some d =>
      rw [e1] at g
      cases e2 : getAll ρ rs with
      | none => rw [e2] at g; cases g
      | some ds' =>
        rw [e2] at g
        have ih := lent_own (fl := fs) e2
        cases b with
        | true => exact ih j h
        | false =>
          cases x with
          | val _ => exact ih j h
          | own i =>
            rcases List.mem_cons.mp h with e | h
            · subst e
              unfold RV.get at e1
              cases e3 : ρ[j]? with
              | none => simp only [e3] at e1; cases e1
              | some s =>
                simp only [e3] at e1
                refine ⟨s, rfl, ?_⟩
                cases s with
                | no => cases e1
                | v _ => cases e1
                | o _ => rfl
                | p _ => rfl
            · exact ih j h
end

section
variable {X : Cx} {W : WX} {k : Nat} {f : Addr} {fd : FuncData} {ps : List Str} {x : Str} {p pos : Pos} {e : Expr} {es : List Expr} {fl : List Bool} {F : List D → FRes} {ma : AM} {t : TA}
theorem lend_back {K : PySem.W.Frag} {N N' : Addr → Prop} {H : Hp} {l : List Nat} {d : D} {v : V} (h : Rp K N H d v) (hN : l = [] → ∀ b, N' b → N b) (hf : (l.isEmpty || d.flat) = true) : Rp K N' H d v := by
  cases l with
  | nil => exact h.ext fun b o e _ => ⟨e, fun n z => n (hN rfl b z)⟩
  | cons a l => exact h.flat (by simpa using hf)
theorem lend_backO {K : PySem.W.Frag} {N N' : Addr → Prop} {H : Hp} {l : List Nat} {d : D} {a : Addr} (h : Ow K N H d a) (hs : ∀ b, N b → N' b) (hN : l = [] → ∀ b, N' b → N b) (hf : (l.isEmpty || d.flatO) = true) : Ow K N' H d a := by
  cases l with
  | nil => exact h.ext (fun b o e _ => ⟨e, fun n z => n (hN rfl b z)⟩) (hs _ h.mem) rfl
  | cons b l => exact h.flat (by simpa using hf) (hs _ h.mem)
theorem lend_backP {K : PySem.W.Frag} {N N' : Addr → Prop} {H : Hp} {l : List Nat} (hs : ∀ b, N b → N' b) (hN : l = [] → ∀ b, N' b → N b) : ∀ {os : List D} {as : List Addr}, Paired (Ow K N H) os as → (l.isEmpty || os.all D.flatO) = true → Paired (Ow K N' H) os as
  | [], _, h, _ => by cases h; exact .nil
  | d :: os, _, h, f => by
    cases h with
    | cons a b =>
      refine .cons (lend_backO a hs hN ?_) (lend_backP hs hN b ?_) <;> (cases l <;> simp_all)
theorem upO_own {ρ ρ2 : Env} {is : List Nat} {os : List D} (hu : upO ρ is os = some ρ2) {i : Nat} {s : Slot} (h : ρ2[i]? = some s) (o : isOwn s = true) : ∃ s', ρ[i]? = some s' ∧ isOwn s' = true := by
  match is, os, hu with
  | [], [], hu => cases hu; exact ⟨s, h, o⟩
  | [j], [d], hu =>
    have hu : ownSet ρ j d = ρ2 := by injection hu
    subst hu
    unfold ownSet at h
    cases e : ρ[j]? with
    | none => rw [e] at h; exact ⟨s, h, o⟩
    | some t =>
      rw [e] at h
      cases t with
      | no => exact ⟨s, h, o⟩
      | v _ => exact ⟨s, h, o⟩
      | o d2 =>
        by_cases z : j = i
        · subst z; exact ⟨_, e, rfl⟩
        · rw [List.getElem?_set_ne z] at h; exact ⟨s, h, o⟩
      | p d2 =>
        by_cases z : j = i
        · subst z; exact ⟨_, e, rfl⟩
        · rw [List.getElem?_set_ne z] at h; exact ⟨s, h, o⟩
theorem Kept.trk {as : List Addr} {H H' : Hp} {K : PySem.W.Frag} {M' : Addr → Prop} {os : List D} (hk : Kept as H H') (hp : Paired (Ow K M' H') os as) {b : Addr} (h : H b ≠ none) : H' b ≠ none := by
  by_cases z : b ∈ as
  · have go : ∀ {os : List D} {as : List Addr}, Paired (Ow K M' H') os as → b ∈ as → H' b ≠ none := by
      intro os as h
      induction h with
      | nil => intro z; cases z
      | cons w _ ih =>
        intro z
        rcases List.mem_cons.mp z with e | z
        · subst e
          obtain ⟨o, q, _⟩ := w.there
          rw [q]; intro z; cases z
        · exact ih z
    exact go hp z
  · cases q : H b with
    | none => exact absurd q h
    | some o => rw [hk b o q z]; intro z; cases z
theorem ExR.back {K : PySem.W.Frag} {mg : Str → Option Value} {M : Addr → Prop} {H : Hp} {σ : St} {l : List Nat} {xx : Exn} {c : Value} {dx : Option Addr} (h : ExR K mg (Lend l M σ) H xx c dx) (hf : (l.isEmpty || flatL xx.fs) = true) : ExR K mg M H xx c dx := by
  obtain ⟨C, h1, h2, h3⟩ := h
  refine ⟨C, h1, h2, ?_⟩
  split at h3
  · rename_i e; exact h3
  · rename_i d e
    obtain ⟨a, v, e1, e2, e3⟩ := h3
    refine ⟨a, v, e1, e2, lend_back (l := l) e3 (fun e b h => by subst e; exact Lend.nil h) ?_⟩
    rw [e] at hf
    simpa [flatL] using hf
  · exact h3
theorem call_sat {fr : Bool} (s : Sat X W (fun _ σ => RelA X.K σ) t ma) :
    Sat X W (fun B σ => if fr then RelF X.K B σ else RelE X.K) (tCallS (spF X.K X.mg fl F) (WE W) t) (eCall fl fr F ma) := by
  intro B M H ρ σ Q rp k
  refine s B M H ρ σ _ rp (Post.seq k fun rs ρ1 M1 H1 vs x1 r1 q1 k1 => ?_)
  unfold callG at k1
  cases eg : getAll ρ1 rs with
  | none => simp only [eg] at k1; exact k1.elim
  | some ds =>
    cases ei : ownIdx fl rs with
    | none => simp only [eg, ei] at k1; exact k1.elim
    | some is =>
      simp only [eg, ei] at k1
      by_cases hc : (decide (is.length ≤ 1) && is.all fun i => !(lent fl rs).contains i) = true
      · rw [if_pos hc] at k1
        rw [Bool.and_eq_true] at hc
        obtain ⟨hc1, hc2⟩ := hc
        have hc1 : is.length ≤ 1 := by simpa using hc1
        have hc2 : ∀ i ∈ is, i ∉ lent fl rs := fun i hm z => by
          have q := List.all_eq_true.mp hc2 i hm
          simp at q
          exact q z
        obtain ⟨as, ha, hi⟩ := args_of (fl := fl) r1 (lent fl rs) (lent_own eg) q1 eg ei (fun _ h => h) hc2
        have la := hi.length
        have nd : as.Nodup := by
          match as, (show as.length ≤ 1 by omega) with
          | [], _ => exact List.nodup_nil
          | [a], _ => simp
        refine ⟨Lend (lent fl rs) M1 σ, ds, as, fun b h => r1.trk b h.1, nd, ha, ?_⟩
        have hN0 : lent fl rs = [] → ∀ b, M1 b → Lend (lent fl rs) M1 σ b := fun e b h => by rw [e]; exact Lend.nil h
        cases eF : F ds with
        | ok r os =>
          simp only [eF] at k1 ⊢
          by_cases hl : fr = false ∧ lentOk (lent fl rs) r os = true
          · rw [if_pos hl] at k1
            obtain ⟨hfr, hl⟩ := hl
            subst hfr
            unfold lentOk at hl
            intro H2 v hk hp hr
            cases eu : upO ρ1 is os with
            | none => simp only [eu] at k1; exact k1.elim
            | some ρ2 =>
              simp only [eu] at k1
              have hp' := lend_backP (N' := M1) (l := lent fl rs) (fun _ h => h.1) hN0 hp (by cases h : (lent fl rs).isEmpty <;> simp_all)
              obtain ⟨r2, x2⟩ := r1.called hi hk (fun _ h => h) (fun _ h => .inl h) (fun b h => hk.trk hp (r1.trk b h)) hp' eu
              exact k1 M1 H2 v x2 r2 (lend_back (l := lent fl rs) hr hN0 (by cases h : (lent fl rs).isEmpty <;> simp_all))
          · rw [if_neg hl] at k1; exact k1.elim
        | okF r os =>
          simp only [eF] at k1 ⊢
          by_cases hl : fr = true ∧ lentOkF (lent fl rs) r os = true
          · rw [if_pos hl] at k1
            obtain ⟨hfr, hl⟩ := hl
            subst hfr
            unfold lentOkF at hl
            intro H2 a hk hn hp hr
            cases eu : upO ρ1 is os with
            | none => simp only [eu] at k1; exact k1.elim
            | some ρ2 =>
              simp only [eu] at k1
              have hs1 : ∀ b, (Lend (lent fl rs) M1 σ b ∨ b = a) → (M1 b ∨ b = a) := fun b h => h.imp (fun z => z.1) id
              have hN1 : lent fl rs = [] → ∀ b, (M1 b ∨ b = a) → (Lend (lent fl rs) M1 σ b ∨ b = a) := fun e b h => h.imp (hN0 e b) id
              have hp' := lend_backP (N' := fun b => M1 b ∨ b = a) (l := lent fl rs) hs1 hN1 hp (by cases h : (lent fl rs).isEmpty <;> simp_all)
              have w := lend_backO (N' := fun b => M1 b ∨ b = a) (l := lent fl rs) hr hs1 hN1 (by cases h : (lent fl rs).isEmpty <;> simp_all)
              obtain ⟨r2, x2⟩ := r1.called hi hk (fun _ h => .inl h) (fun b h => h.imp id fun e => by rw [e]; exact hn) (fun b h => h.elim (fun h => hk.trk hp (r1.trk b h)) fun e => by
                rw [e]
                obtain ⟨o, q, _⟩ := w.there
                rw [q]; intro z; cases z) hp' eu
              refine k1 _ H2 _ x2 r2 ⟨a, rfl, w, ?_, fun i s hi ho e => ?_, fun p hm e => ?_⟩
              · cases q : B.H a with
                | none => rfl
                | some o => exact absurd hn (r1.old a (by rw [q]; intro z; cases z))
              · obtain ⟨s', h1, h2⟩ := upO_own eu hi ho
                obtain ⟨a', d0, e1, w0, _⟩ := (r1.slot i s' h1).own h2
                rw [of_join e] at e1
                cases e1
                obtain ⟨o, q, _⟩ := w0.there
                rw [hn] at q
                cases q
              · have q := (r1.pr p hm).1
                rw [e, hn] at q
                cases q
          · rw [if_neg hl] at k1; exact k1.elim
        | exc xx os =>
          simp only [eF] at k1 ⊢
          by_cases hl : lentOk (lent fl rs) (.tup xx.fs) os = true
          · rw [if_pos hl] at k1
            unfold lentOk at hl
            intro H2 c dx hk hp hr
            cases eu : upO ρ1 is os with
            | none => simp only [eu] at k1; exact k1.elim
            | some ρ2 =>
              simp only [eu] at k1
              have hp' := lend_backP (N' := M1) (l := lent fl rs) (fun _ h => h.1) hN0 hp (by cases h : (lent fl rs).isEmpty <;> simp_all)
              obtain ⟨r2, x2⟩ := r1.called hi hk (fun _ h => h) (fun _ h => .inl h) (fun b h => hk.trk hp (r1.trk b h)) hp' eu
              exact k1 M1 H2 c dx x2 r2 (hr.back (by cases h : (lent fl rs).isEmpty <;> simp_all [D.flat]))
          · rw [if_neg hl] at k1; exact k1.elim
        | bad => simp only [eF] at k1; exact k1.elim
      · rw [if_neg hc] at k1; exact k1.elim
theorem de_call (hF : FnOk X.prog X.w X.K X.mg X.base (L2.CX X.prog X.w) k f fd ps (spF X.K X.mg fl F)) (hr : Room k X.A) (hg : Gl X x) (hm : X.mg x = some (.ref f)) (hk : PySem.W.keepIn X.K (.ref f) = true) (hb : Binds X.K fd ps []) (tk : Takes X W) (ha : DA X W (e :: es) ma)
    (hdb : (x == ("__debug__" : Str)) = false := by decide) (he : starEach (e :: es) X.env = (false, eval e X.env) :: starEach es X.env := by rfl) (hpl : (backTo pos (starEach es X.env)).any (·.1) = false := by rfl) : DE X W (.Call (.Name x p) (e :: es) [] pos) (eCall fl false F ma) := by
  obtain ⟨t, pt, s⟩ := ha
  exact ⟨_, pe_callS hF hr hg hm hk hb (fun σ => passAt tk σ) pt hdb he hpl, call_sat (fr := false) s⟩
theorem df_call (hF : FnOk X.prog X.w X.K X.mg X.base (L2.CX X.prog X.w) k f fd ps (spF X.K X.mg fl F)) (hr : Room k X.A) (hg : Gl X x) (hm : X.mg x = some (.ref f)) (hk : PySem.W.keepIn X.K (.ref f) = true) (hb : Binds X.K fd ps []) (tk : Takes X W) (ha : DA X W (e :: es) ma)
    (hdb : (x == ("__debug__" : Str)) = false := by decide) (he : starEach (e :: es) X.env = (false, eval e X.env) :: starEach es X.env := by rfl) (hpl : (backTo pos (starEach es X.env)).any (·.1) = false := by rfl) : DF X W (.Call (.Name x p) (e :: es) [] pos) (eCall fl true F ma) := by
  obtain ⟨t, pt, s⟩ := ha
  exact ⟨_, pe_callS hF hr hg hm hk hb (fun σ => passAt tk σ) pt hdb he hpl, call_sat (fr := true) s⟩
end
end NV

set_option Elab.async false
set_option linter.all false
set_option maxRecDepth 100000
set_option maxHeartbeats 4000000
/-! Core9: value tests, built-in functions. -/
namespace NV
open PySem PySem.Spec PyProof.Rows L2

section
variable {X : Cx} {W : WX} {a b : Expr} {rest : List Expr} {pos : Pos} {ea eb : EM}
/-! ### and, or, not as values -/
theorem truV_rp {M : Addr → Prop} {H : Hp} {d : D} {v : V} {k : Bool} (h : Rp X.K M H d v) (e : truthy d = some k) : TruV X.K v H k := truV_of h.rq e
theorem de_and (ha : DE X W a ea) (hb : DE X W (.BoolOp .And (b :: rest) pos) eb) : DE X W (.BoolOp .And (a :: b :: rest) pos) (eAnd ea eb) := by
  obtain ⟨t, pt, s⟩ := ha
  obtain ⟨u, pu, s'⟩ := hb
  refine ⟨_, pe_andT pt pu, fun B M H ρ σ Q rp k => s B M H ρ σ _ rp (Post.seq k fun d ρ1 M1 H1 v x1 r1 q1 k1 => ?_)⟩
  cases e : truthy d with
  | none => rw [e] at k1; exact k1.elim
  | some c =>
    rw [e] at k1
    refine ⟨c, truV_rp q1 e, ?_⟩
    cases c with
    | true => exact iteT (s' B M1 H1 ρ1 σ Q r1 k1)
    | false => exact iteF (k1 M1 H1 v Ext.refl r1 q1)
theorem de_or (ha : DE X W a ea) (hb : DE X W (.BoolOp .Or (b :: rest) pos) eb) : DE X W (.BoolOp .Or (a :: b :: rest) pos) (eOr ea eb) := by
  obtain ⟨t, pt, s⟩ := ha
  obtain ⟨u, pu, s'⟩ := hb
  refine ⟨_, pe_orT pt pu, fun B M H ρ σ Q rp k => s B M H ρ σ _ rp (Post.seq k fun d ρ1 M1 H1 v x1 r1 q1 k1 => ?_)⟩
  cases e : truthy d with
  | none => rw [e] at k1; exact k1.elim
  | some c =>
    rw [e] at k1
    refine ⟨c, truV_rp q1 e, ?_⟩
    cases c with
    | true => exact iteT (k1 M1 H1 v Ext.refl r1 q1)
    | false => exact iteF (s' B M1 H1 ρ1 σ Q r1 k1)
theorem de_not (ha : DE X W a ea) : DE X W (.UnaryOp .Not a pos) (eNot ea) := by
  obtain ⟨t, pt, s⟩ := ha
  refine ⟨_, pe_notT pt, fun B M H ρ σ Q rp k => s B M H ρ σ _ rp (Post.seq k fun d ρ1 M1 H1 v x1 r1 q1 k1 => ?_)⟩
  cases e : truthy d with
  | none => rw [e] at k1; exact k1.elim
  | some c =>
    rw [e] at k1
    exact ⟨c, truV_rp q1 e, k1 M1 H1 _ Ext.refl r1 (.bl _)⟩
end

section
variable {X : Cx} {W : WX} {B : Base} {M : Addr → Prop} {H : Hp} {ρ : Env} {σ : St} {Q : V → Hp → Prop}
/-! ### order of data that are alike -/
def okOrd (d e : D) : Bool := okD 64 d && okD 64 e && PySem.W.alike (toPy d) (toPy e) && !(isNon d)
def ordO (f : PyData → PyData → Bool) (d e : D) : Option D := if okOrd d e then some (.bl (f (toPy d) (toPy e))) else none
def rOrd (K : PySem.W.Frag) (f : PyData → PyData → Bool) : R2 := fun x y H Q => ∃ d e, Dp K H x d ∧ Dp K H y e ∧ PySem.W.alike d e = true ∧ d ≠ .none ∧ d.depth ≤ 64 ∧ Q (.bl (f d e)) H
theorem op_ord {op : CmpOp} {f : PyData → PyData → Bool} (c : Cd X)
    (hop : ∀ (s : Shared) (a b : Value) (da db : PyData) (as bs : List Addr) (Q : Value → Shared → Prop), Reads s.heap a da as → Reads s.heap b db bs → PySem.W.alike da db = true → da ≠ .none → X.A.units + min da.depth db.depth < cLine → Q (.bool (f da db)) s → wpAny (model X.prog X.w) X.A (compareOp op a b) Q X.xe s) :
    OpR X (compareOp op) (rOrd X.K f) := by
  intro pins s σ H x y v u Q I rx ry h
  obtain ⟨d, e, hd, he, al, nn, dp, q⟩ := h
  obtain ⟨as, r1⟩ := Dp.reads I d x v hd rx
  obtain ⟨bs, r2⟩ := Dp.reads I e y u he ry
  have hu := c.units
  exact hop s v u d e as bs _ r1 r2 al nn (by omega) ⟨.bl _, H, I, rfl, q⟩
theorem op_ltD (c : Cd X) : OpR X (compareOp .Lt) (rOrd X.K PySem.W.dataLt) := op_ord c fun s a b da db as bs Q h1 h2 h3 h4 h5 h6 => PySem.W.lt_data h1 h2 h3 h4 h5 h6
theorem op_gtD (c : Cd X) : OpR X (compareOp .Gt) (rOrd X.K fun d e => PySem.W.dataLt e d) := op_ord c fun s a b da db as bs Q h1 h2 h3 h4 h5 h6 => PySem.W.gt_data h1 h2 h3 h4 h5 h6
theorem op_leD (c : Cd X) : OpR X (compareOp .LtE) (rOrd X.K fun d e => !PySem.W.dataLt e d) := op_ord c fun s a b da db as bs Q h1 h2 h3 h4 h5 h6 => PySem.W.le_data h1 h2 h3 h4 h5 h6
theorem op_geD (c : Cd X) : OpR X (compareOp .GtE) (rOrd X.K fun d e => !PySem.W.dataLt d e) := op_ord c fun s a b da db as bs Q h1 h2 h3 h4 h5 h6 => PySem.W.ge_data h1 h2 h3 h4 h5 h6
theorem o_ord {f : PyData → PyData → Bool} : OpE X (ordO f) (rOrd X.K f) := by
  intro B W M H ρ σ d e z x y Q rp hx hy hf h
  unfold ordO at hf
  split at hf
  · rename_i hc
    cases hf
    unfold okOrd at hc
    simp only [Bool.and_eq_true] at hc
    obtain ⟨⟨⟨h1, h2⟩, h3⟩, h4⟩ := hc
    refine ⟨_, _, (Rq.dp h1 hx).1, (Rq.dp h2 hy).1, h3, fun e => ?_, okD.depth 64 d h1, post_v h rp (.bl _)⟩
    cases d <;> simp [toPy, isNon] at e h4
  · cases hf

/-! ### len, int, max, min .. -/
def lenD : List D → Option D
  | [.str x] => some (.int x.length)
  | [.tup xs] => some (.int xs.length)
  | [.lst xs] => some (.int xs.length)
  | [.scr xs] => some (.int xs.length)
  | _ => none
theorem f_len : CallE X lenD (fun xs H Q => ∃ x n, xs = [x] ∧ LenV X.K x H n ∧ Q (.int n) H) := by
  intro B W M H ρ σ ds z xs Q rp hp hf h
  unfold lenD at hf
  split at hf
  · cases hf
    cases hp with | cons a b => cases b; obtain ⟨rfl, g⟩ := rq_str a; exact ⟨_, _, rfl, ⟨g.1, rfl⟩, post_v h rp (.int _)⟩
  · cases hf
    cases hp with | cons a b => cases b; obtain ⟨p, vs, rfl, l, h1, h2⟩ := rq_tup a; exact ⟨_, vs.length, rfl, .inr ⟨_, h1, rfl⟩, by rw [← h2.length]; exact post_v h rp (.int _)⟩
  · cases hf
    cases hp with | cons a b => cases b; obtain ⟨p, vs, rfl, l, h1, h2⟩ := rq_lst a; exact ⟨_, vs.length, rfl, .inl ⟨_, SqL.of h1, rfl⟩, by rw [← h2.length]; exact post_v h rp (.int _)⟩
  · cases hf
    rename_i ys
    cases hp with | cons a b => cases b; obtain ⟨p, rfl, l, h1⟩ := rq_scr a; exact ⟨_, (ys.map V.int).length, rfl, .inl ⟨_, h1.sql, rfl⟩, by rw [List.length_map]; exact post_v h rp (.int _)⟩
  · cases hf
def intD : List D → Option D
  | [.int i] => some (.int i)
  | [.bl b] => some (.int (if b then 1 else 0))
  | _ => none
theorem f_int : CallE X intD (fun xs H Q => (∃ i, xs = [.int i] ∧ Q (.int i) H) ∨ ∃ k, xs = [.bl k] ∧ Q (.int (if k then 1 else 0)) H) := by
  intro B W M H ρ σ ds z xs Q rp hp hf h
  unfold intD at hf
  split at hf
  · cases hf
    cases hp with | cons a b => cases b; obtain rfl := rq_int a; exact .inl ⟨_, rfl, post_v h rp (.int _)⟩
  · cases hf
    cases hp with | cons a b => cases b; obtain rfl := rq_bl a; exact .inr ⟨_, rfl, post_v h rp (.int _)⟩
  · cases hf
def max2D : List D → Option D
  | [.int i, .int j] => some (.int (if j > i then j else i))
  | _ => none
def min2D : List D → Option D
  | [.int i, .int j] => some (.int (if j < i then j else i))
  | _ => none
theorem f_max2 : CallE X max2D (fun xs H Q => ∃ i j, xs = [.int i, .int j] ∧ Q (.int (if j > i then j else i)) H) := by
  intro B W M H ρ σ ds z xs Q rp hp hf h
  unfold max2D at hf
  split at hf
  · cases hf
    cases hp with | cons a b => cases b with | cons b c => cases c; obtain rfl := rq_int a; obtain rfl := rq_int b; exact ⟨_, _, rfl, post_v h rp (.int _)⟩
  · cases hf
theorem f_min2 : CallE X min2D (fun xs H Q => ∃ i j, xs = [.int i, .int j] ∧ Q (.int (if j < i then j else i)) H) := by
  intro B W M H ρ σ ds z xs Q rp hp hf h
  unfold min2D at hf
  split at hf
  · cases hf
    cases hp with | cons a b => cases b with | cons b c => cases c; obtain rfl := rq_int a; obtain rfl := rq_int b; exact ⟨_, _, rfl, post_v h rp (.int _)⟩
  · cases hf
def intsOf : List D → Option (List Int)
  | [] => some []
  | .int i :: ds => (intsOf ds).map fun l => i :: l
  | _ => none
theorem ints_rpl : ∀ {ds : List D} {ns : List Int} {vs : List V}, intsOf ds = some ns → RpL X.K M H ds vs → vs = ns.map V.int ∧ ds = ns.map D.int
  | [], ns, vs, e, h => by cases e; cases h; exact ⟨rfl, rfl⟩
  | d :: ds, ns, vs, e, h => by
    cases d with
    | int i =>
      cases h with
      | cons a b =>
        cases e2 : intsOf ds with
        | none => simp only [intsOf, e2] at e; cases e
        | some l =>
          simp only [intsOf, e2] at e
          cases e
          cases a
          obtain ⟨e3, e4⟩ := ints_rpl e2 b
          exact ⟨by rw [e3]; rfl, by rw [e4]; rfl⟩
    | _ => cases e
/-- the least, the greatest of ints -/
def minL : List Int → Int
  | [] => 0
  | [i] => i
  | i :: l => min i (minL l)
def maxL : List Int → Int
  | [] => 0
  | [i] => i
  | i :: l => max i (maxL l)
theorem minL_le : ∀ {l : List Int} {y : Int}, y ∈ l → minL l ≤ y
  | [], y, h => by cases h
  | [i], y, h => by simp at h; subst h; exact Int.le_refl _
  | i :: j :: l, y, h => by
    have e : minL (i :: j :: l) = min i (minL (j :: l)) := rfl
    rw [e]
    rcases List.mem_cons.mp h with h | h
    · subst h; omega
    · have := minL_le h; omega
theorem minL_mem : ∀ {l : List Int}, l ≠ [] → minL l ∈ l
  | [], h => absurd rfl h
  | [i], h => by simp [minL]
  | i :: j :: l, h => by
    have e : minL (i :: j :: l) = min i (minL (j :: l)) := rfl
    have q := minL_mem (l := j :: l) (by simp)
    rw [e]
    by_cases z : i ≤ minL (j :: l)
    · rw [Int.min_eq_left z]; exact List.mem_cons_self
    · rw [Int.min_eq_right (by omega)]; exact List.mem_cons_of_mem _ q
theorem maxL_ge : ∀ {l : List Int} {y : Int}, y ∈ l → y ≤ maxL l
  | [], y, h => by cases h
  | [i], y, h => by simp at h; subst h; exact Int.le_refl _
  | i :: j :: l, y, h => by
    have e : maxL (i :: j :: l) = max i (maxL (j :: l)) := rfl
    rw [e]
    rcases List.mem_cons.mp h with h | h
    · subst h; omega
    · have := maxL_ge h; omega
theorem maxL_mem : ∀ {l : List Int}, l ≠ [] → maxL l ∈ l
  | [], h => absurd rfl h
  | [i], h => by simp [maxL]
  | i :: j :: l, h => by
    have e : maxL (i :: j :: l) = max i (maxL (j :: l)) := rfl
    have q := maxL_mem (l := j :: l) (by simp)
    rw [e]
    by_cases z : maxL (j :: l) ≤ i
    · rw [Int.max_eq_left z]; exact List.mem_cons_self
    · rw [Int.max_eq_right (by omega)]; exact List.mem_cons_of_mem _ q
def listI (f : List Int → Option D) : List D → Option D
  | [.lst ds] => (intsOf ds).bind f
  | [.scr ns] => f ns
  | _ => none
theorem list_ints {ds : List D} {xs : List V} {f : List Int → Option D} {z : D} (hp : Paired (Rq X.K M H) ds xs) (hf : listI f ds = some z) : ∃ a ns, xs = [V.ref a] ∧ SqL X.K H a (ns.map V.int) ∧ f ns = some z := by
  unfold listI at hf
  split at hf
  · cases hp with
    | cons a b =>
      cases b
      obtain ⟨p, vs, rfl, l, h1, h2⟩ := rq_lst a
      rename_i ds'
      cases e : intsOf ds' with
      | none => rw [e] at hf; cases hf
      | some ns =>
        rw [e] at hf
        obtain ⟨e1, _⟩ := ints_rpl e h2
        exact ⟨_, ns, rfl, e1 ▸ SqL.of h1, hf⟩
  · cases hp with
    | cons a b =>
      cases b
      obtain ⟨p, rfl, l, h1⟩ := rq_scr a
      exact ⟨_, _, rfl, h1.sql, hf⟩
  · cases hf
def sumD : List D → Option D := listI fun l => some (.int l.sum)
def minD : List D → Option D := listI fun l => if l.isEmpty then none else some (.int (minL l))
def maxD : List D → Option D := listI fun l => if l.isEmpty then none else some (.int (maxL l))
theorem f_sum : CallE X sumD (rSum X.K) := by
  intro B W M H ρ σ ds z xs Q rp hp hf h
  obtain ⟨a, ns, rfl, hs, e⟩ := list_ints hp hf
  cases e
  exact ⟨a, ns, rfl, hs, post_v h rp (.int _)⟩
theorem f_min : CallE X minD (rMin X.K) := by
  intro B W M H ρ σ ds z xs Q rp hp hf h
  obtain ⟨a, ns, rfl, hs, e⟩ := list_ints hp hf
  cases ns with
  | nil => cases e
  | cons n ns =>
    cases e
    refine ⟨a, _, rfl, hs, by simp, fun m h1 h2 => ?_⟩
    have : m = minL (n :: ns) := Int.le_antisymm (h2 _ (minL_mem (by simp))) (minL_le h1)
    rw [this]
    exact post_v h rp (.int _)
theorem f_max : CallE X maxD (rMax X.K) := by
  intro B W M H ρ σ ds z xs Q rp hp hf h
  obtain ⟨a, ns, rfl, hs, e⟩ := list_ints hp hf
  cases ns with
  | nil => cases e
  | cons n ns =>
    cases e
    refine ⟨a, _, rfl, hs, by simp, fun m h1 h2 => ?_⟩
    have : m = maxL (n :: ns) := Int.le_antisymm (maxL_ge h1) (h2 _ (maxL_mem (by simp)))
    rw [this]
    exact post_v h rp (.int _)
/-- sorted, ints -/
def insI (i : Int) : List Int → List Int
  | [] => [i]
  | j :: l => if i ≤ j then i :: j :: l else j :: insI i l
def sortI (l : List Int) : List Int := l.foldr insI []
theorem insI_perm (i : Int) : ∀ l, (insI i l).Perm (i :: l)
  | [] => .refl _
  | j :: l => by
    unfold insI
    split
    · exact .refl _
    · exact ((insI_perm i l).cons j).trans (List.Perm.swap i j l)
theorem sortI_perm : ∀ l, (sortI l).Perm l
  | [] => .refl _
  | i :: l => (insI_perm i (sortI l)).trans ((sortI_perm l).cons i)
theorem insI_sorted (i : Int) : ∀ l : List Int, l.Pairwise (· ≤ ·) → (insI i l).Pairwise (· ≤ ·)
  | [], _ => List.pairwise_singleton _ _
  | j :: l, h => by
    unfold insI
    have h1 := List.pairwise_cons.mp h
    split
    · rename_i q
      refine List.pairwise_cons.mpr ⟨fun y hy => ?_, h⟩
      rcases List.mem_cons.mp hy with e | hy
      · subst e; exact q
      · exact Int.le_trans q (h1.1 y hy)
    · refine List.pairwise_cons.mpr ⟨fun y hy => ?_, insI_sorted i l h1.2⟩
      rcases List.mem_cons.mp ((insI_perm i l).mem_iff.mp hy) with e | hy
      · subst e; omega
      · exact h1.1 y hy
theorem sortI_sorted : ∀ l, (sortI l).Pairwise (· ≤ ·)
  | [] => .nil
  | i :: l => insI_sorted i _ (sortI_sorted l)
def sortedD : List D → Option D := listI fun l => if l.length < 64 then some (.lst ((sortI l).map .int)) else none
theorem rpl_ints {K : PySem.W.Frag} : ∀ ns : List Int, RpL K M H (ns.map D.int) (ns.map V.int)
  | [] => .nil
  | i :: ns => .cons (.int i) (rpl_ints ns)
theorem f_sorted : CallF X sortedD (rSorted X.K) := by
  intro B W M H ρ σ ds z xs Q rp hp hf h
  obtain ⟨a, ns, rfl, hs, e⟩ := list_ints hp hf
  split at e
  · rename_i hl
    cases e
    refine ⟨a, ns, rfl, hs, hl, fun ns' p hpm hso hn => ?_⟩
    have e2 : ns' = sortI ns := List.Perm.eq_of_pairwise (le := fun a b : Int => decide (a ≤ b)) (by intro a b _ _ h1 h2; simp at h1 h2; omega) (by simpa using hso) (by simpa using sortI_sorted ns) (hpm.trans (sortI_perm ns).symm)
    subst e2
    exact post_o h rp (rpl_ints _) (by rw [List.length_map, (sortI_perm ns).length_eq, sizeLine_eq]; omega) hn
  · cases e
def tupleD : List D → Option D
  | [.lst xs] => some (.tup xs)
  | [.tup xs] => some (.tup xs)
  | _ => none
theorem f_tuple : CallE X tupleD (fun xs H Q => ∃ p ys, xs = [.ref p] ∧ ((SqL X.K H p ys ∧ ∀ l, H l = none → Q (.ref l) (upd H l (.tup ys))) ∨ (SqT X.K H p ys ∧ Q (.ref p) H))) := by
  intro B W M H ρ σ ds z xs Q rp hp hf h
  unfold tupleD at hf
  split at hf
  · cases hf
    cases hp with | cons a b => cases b; obtain ⟨p, vs, rfl, l, h1, h2⟩ := rq_lst a; exact ⟨_, vs, rfl, .inl ⟨SqL.of h1, fun q hq => post_t h rp h2 l hq⟩⟩
  · cases hf
    cases hp with | cons a b => cases b; obtain ⟨p, vs, rfl, l, h1, h2⟩ := rq_tup a; exact ⟨_, vs, rfl, .inr ⟨h1, post_v h rp (.tup l h1 h2)⟩⟩
  · cases hf
def listD : List D → Option D
  | [.lst xs] => some (.lst xs)
  | [.tup xs] => some (.lst xs)
  | _ => none
theorem f_list : CallF X listD (fun xs H Q => ∃ p ys, xs = [.ref p] ∧ (SqL X.K H p ys ∨ SqT X.K H p ys) ∧ ∀ l, H l = none → Q (.ref l) (upd H l (.lst ys))) := by
  intro B W M H ρ σ ds z xs Q rp hp hf h
  unfold listD at hf
  split at hf
  · cases hf
    cases hp with | cons a b => cases b; obtain ⟨p, vs, rfl, l, h1, h2⟩ := rq_lst a; exact ⟨_, vs, rfl, .inl (SqL.of h1), fun q hq => post_o h rp h2 l hq⟩
  · cases hf
    cases hp with | cons a b => cases b; obtain ⟨p, vs, rfl, l, h1, h2⟩ := rq_tup a; exact ⟨_, vs, rfl, .inr h1, fun q hq => post_o h rp h2 l hq⟩
  · cases hf
def blsOf : List D → Option (List Bool)
  | [] => some []
  | .bl i :: ds => (blsOf ds).map fun l => i :: l
  | _ => none
theorem bls_rpl : ∀ {ds : List D} {ns : List Bool} {vs : List V}, blsOf ds = some ns → RpL X.K M H ds vs → vs = ns.map V.bl
  | [], ns, vs, e, h => by cases e; cases h; rfl
  | d :: ds, ns, vs, e, h => by
    cases d with
    | bl i =>
      cases h with
      | cons a b =>
        cases e2 : blsOf ds with
        | none => simp only [blsOf, e2] at e; cases e
        | some l =>
          simp only [blsOf, e2] at e
          cases e
          cases a
          rw [bls_rpl e2 b]; rfl
    | _ => cases e
def listB (f : List Bool → D) : List D → Option D
  | [.lst ds] => (blsOf ds).map f
  | _ => none
def anyD2 : List D → Option D := listB fun l => .bl (l.any id)
def allD2 : List D → Option D := listB fun l => .bl (l.all id)
theorem f_any : CallE X anyD2 (rAny X.K) := by
  intro B W M H ρ σ ds z xs Q rp hp hf h
  unfold anyD2 listB at hf
  split at hf
  · cases hp with
    | cons a b =>
      cases b
      obtain ⟨p, vs, rfl, l, h1, h2⟩ := rq_lst a
      rename_i ds'
      cases e : blsOf ds' with
      | none => rw [e] at hf; cases hf
      | some ns =>
        rw [e] at hf
        cases hf
        obtain rfl := bls_rpl e h2
        exact ⟨_, ns, rfl, SqL.of h1, post_v h rp (.bl _)⟩
  · cases hf
theorem f_all : CallE X allD2 (rAll X.K) := by
  intro B W M H ρ σ ds z xs Q rp hp hf h
  unfold allD2 listB at hf
  split at hf
  · cases hp with
    | cons a b =>
      cases b
      obtain ⟨p, vs, rfl, l, h1, h2⟩ := rq_lst a
      rename_i ds'
      cases e : blsOf ds' with
      | none => rw [e] at hf; cases hf
      | some ns =>
        rw [e] at hf
        cases hf
        obtain rfl := bls_rpl e h2
        exact ⟨_, ns, rfl, SqL.of h1, post_v h rp (.bl _)⟩
  · cases hf
def strD : List D → Option D
  | [.int i] => if i.natAbs.log2 < 1920 ∧ decide ((toString i).length ≤ sizeLine) && PySem.PyData.strOk (toString i : Str) then some (.str (toString i)) else none
  | _ => none
end
end NV

set_option Elab.async false
set_option linter.all false
set_option maxRecDepth 100000
set_option maxHeartbeats 4000000
/-! Core10: isinstance, tuple(range(..)), list(range(..)). -/
namespace NV
open PySem PySem.Spec PyProof.Rows L2

/-- the name of a value's type -/
def typ : D → String
  | .non => "NoneType"
  | .bl _ => "bool"
  | .int _ => "int"
  | .str _ => "str"
  | .tup _ => "tuple"
  | .lst _ => "list"
  | .dct _ => "dict"
  | .scr _ => "list"
  | .exn _ _ => "object"
inductive TyN where
  | bool | int | str | tuple | list | dict
def TyN.nm : TyN → String
  | .bool => "bool"
  | .int => "int"
  | .str => "str"
  | .tuple => "tuple"
  | .list => "list"
  | .dict => "dict"
def isT (T : TyN) (d : D) : Option D := match d, T with
  | .non, _ => some (.bl false)
  | .bl _, .bool => some (.bl true)
  | .bl _, .int => some (.bl true)
  | .bl _, _ => some (.bl false)
  | .int _, .int => some (.bl true)
  | .int _, _ => some (.bl false)
  | .str _, .str => some (.bl true)
  | .str _, _ => some (.bl false)
  | .tup _, .tuple => some (.bl true)
  | .tup _, _ => some (.bl false)
  | .lst _, .list => some (.bl true)
  | .lst _, _ => some (.bl false)
  | .dct _, .dict => some (.bl true)
  | .dct _, _ => some (.bl false)
  | .scr _, .list => some (.bl true)
  | .scr _, _ => some (.bl false)
  | .exn _ _, _ => none
theorem kit_typ {T : TyN} {d z : D} (h : isT T d = some z) : ∃ b, z = .bl b ∧ kitB (typ d) T.nm = some b := by
  cases d <;> cases T <;> cases h <;> exact ⟨_, rfl, by dsimp only [typ, TyN.nm]; decide +kernel⟩
theorem tyX_of {K : PySem.W.Frag} {M : Addr → Prop} {H : Hp} {d : D} {v : V} (h : Rq K M H d v) (hx : typ d ≠ "object") : TyX K H v (.type (typ d)) := by
  cases d with
  | non => cases h; exact .base .non
  | bl b => cases h; exact .base (.bl _)
  | int i => cases h; exact .base (.int _)
  | str x => cases h; exact .base (.str _)
  | tup ds =>
    obtain ⟨a, vs, rfl, l, h1, h2⟩ := rq_tup h
    rcases h1 with (h1 | ⟨o, h1⟩) | ⟨o, its, n, h1, h2, _⟩
    · exact .base (.tup h1)
    · exact .fTuple h1
    · exact .kTuple h1 h2
  | lst ds =>
    obtain ⟨a, vs, rfl, l, h1, h2⟩ := rq_lst h
    exact .base (.lst h1)
  | dct ds =>
    obtain ⟨a, vs, rfl, l, h1, h2⟩ := rq_dct h
    exact .base (.dK h1)
  | scr xs =>
    obtain ⟨a, rfl, l, h1⟩ := rq_scr h
    rcases h1 with ⟨o, h1⟩ | ⟨o, its, n, h1, h2, _⟩
    · exact .base (.frz h1)
    · exact .kList h1 h2
  | exn _ _ => exact absurd rfl hx
section
variable {X : Cx} {W : WX} {e : Expr} {p p2 pos : Pos}
def eIsT (T : TyN) (m : RM) : EM := fun ρ => (m ρ).bind fun x ρ1 => (ofO (x.get ρ1) ρ1).bind fun d _ => ofO (isT T d) ρ1
theorem de_isT (T : TyN) {y : Str} {m : RM} (he : DR X W e m) (hg : Gl X "isinstance") (hm : X.mg "isinstance" = none) (hg2 : Gl X y) (hm2 : X.mg y = none) (hv : bootBuiltins y = some (.type T.nm)) (hn : y ≠ "__name__" := by decide) (hd : (y == ("__debug__" : Str)) = false := by decide)
    (h1 : starEach [e, .Name y p2] X.env = (false, eval e X.env) :: starEach [.Name y p2] X.env := by rfl) (h2 : starEach [.Name y p2] X.env = (false, eval (.Name y p2) X.env) :: starEach [] X.env := by rfl) (hpl : (backTo pos (starEach [.Name y p2] X.env)).any (·.1) = false := by rfl) :
    DE X W (.Call (.Name "isinstance" p) [e, .Name y p2] [] pos) (eIsT T m) := by
  obtain ⟨t, pt, s⟩ := he
  refine ⟨_, pe_callB call_isi hg hm PyProof.Rows.boot_isinstance (pa_cons pt (pa_cons (pe_bltn (v := .ty T.nm) hg2 hm2 hv rfl hn hd) pa_nil h2) h1) (by decide) (by decide) h1 hpl, fun B M H ρ σ Q rp k => s B M H ρ σ _ rp (Post.seq k fun x ρ1 M1 H1 v x1 r1 q1 k1 => ?_)⟩
  cases ex : x.get ρ1 with
  | none => rw [ex] at k1; exact k1.elim
  | some d =>
    rw [ex] at k1
    cases ez : isT T d with
    | none => simp only [ofO, Res.bind, ez] at k1; exact k1.elim
    | some z =>
      simp only [ofO, Res.bind, ez] at k1
      obtain ⟨b, rfl, hb⟩ := kit_typ ez
      refine ⟨v, .ty T.nm, .type (typ d), .type T.nm, b, rfl, .ty _, tyX_of (q1.rq Ext.refl r1 ex) (fun z => ?_), kit_ty hb, k1 M1 H1 _ Ext.refl r1 (.bl _)⟩
      cases d <;> first | (exact absurd z (by dsimp only [typ]; decide +kernel)) | cases ez

/-! ### range(..) as an argument -/
def DRg (X : Cx) (W : WX) (e : Expr) (m : Env → Res (Int × Int)) : Prop := ∃ t, PRg X e t ∧
  ∀ (B : Base) (M : Addr → Prop) (H : Hp) (ρ : Env) (σ : St) (Q : Int → Int → Hp → Prop), Rep X.K B M H ρ σ → Post X B W (fun _ _ _ (a b : Int × Int) => a = b) M H σ (m ρ) (fun ab H' => Q ab.1 ab.2 H') → t σ H Q
def gRg1 (m : EM) : Env → Res (Int × Int) := fun ρ => (m ρ).bind fun d ρ1 => match d with
  | .int i => .ok (0, i) ρ1
  | _ => .bad
def gRg2 (m1 m2 : EM) : Env → Res (Int × Int) := fun ρ => (m1 ρ).bind fun d ρ1 => (m2 ρ1).bind fun e ρ2 => match d, e with
  | .int i, .int j => .ok (i, j) ρ2
  | _, _ => .bad
theorem drg1 {a : Expr} {m : EM} (hg : Gl X "range") (hm : X.mg "range" = none) (h : DE X W a m) (hs : starEach [a] X.env = (false, eval a X.env) :: starEach [] X.env := by rfl) : DRg X W (.Call (.Name "range" p) [a] [] pos) (gRg1 m) := by
  obtain ⟨t, pt, s⟩ := h
  refine ⟨_, prg_1 hg hm pt hs, fun B M H ρ σ Q rp k => s B M H ρ σ _ rp (Post.seq k fun d ρ1 M1 H1 v x1 r1 q1 k1 => ?_)⟩
  cases d with
  | int i => cases q1; exact ⟨i, rfl, k1 M1 H1 (0, i) Ext.refl r1 rfl⟩
  | _ => exact k1.elim
theorem drg2 {a b : Expr} {m1 m2 : EM} (hg : Gl X "range") (hm : X.mg "range" = none) (h : DE X W a m1) (h2 : DE X W b m2) (na : starEach [a, b] X.env = (false, eval a X.env) :: starEach [b] X.env := by rfl)
    (nb : starEach [b] X.env = (false, eval b X.env) :: starEach [] X.env := by rfl) (hp : (backTo pos (starEach [b] X.env)).any (·.1) = false := by rfl) : DRg X W (.Call (.Name "range" p) [a, b] [] pos) (gRg2 m1 m2) := by
  obtain ⟨t, pt, s⟩ := h
  obtain ⟨t2, pt2, s2⟩ := h2
  refine ⟨_, prg_2 hg hm pt pt2 na nb hp, fun B M H ρ σ Q rp k => s B M H ρ σ _ rp (Post.seq k fun d ρ1 M1 H1 v x1 r1 q1 k1 => ?_)⟩
  refine s2 B M1 H1 ρ1 σ _ r1 (Post.seq k1 fun e ρ2 M2 H2 v2 x2 r2 q2 k2 => ?_)
  cases d with
  | int i =>
    cases e with
    | int j => cases q1; cases q2; exact ⟨i, j, rfl, rfl, k2 M2 H2 (i, j) Ext.refl r2 rfl⟩
    | _ => exact k2.elim
  | _ => exact k2.elim
instance {a b : Int} : Decidable (RgOk a b) := by unfold RgOk; infer_instance
theorem rng_rpl {K : PySem.W.Frag} {M : Addr → Prop} {H : Hp} {a b : Int} : RpL K M H (rngD a (b - a).toNat) (rgV a b) := by
  unfold rngD rgV
  generalize List.range (b - a).toNat = l
  induction l with
  | nil => exact .nil
  | cons x l ih => exact .cons (.int _) ih
def eTupRg (m : Env → Res (Int × Int)) : EM := fun ρ => (m ρ).bind fun ab ρ1 => if RgOk ab.1 ab.2 then .ok (.tup (rngD ab.1 (ab.2 - ab.1).toNat)) ρ1 else .bad
def eLstRg (m : Env → Res (Int × Int)) : EM := fun ρ => (m ρ).bind fun ab ρ1 => if RgOk ab.1 ab.2 then .ok (.lst (rngD ab.1 (ab.2 - ab.1).toNat)) ρ1 else .bad
theorem de_tupRg {m : Env → Res (Int × Int)} (c : Cd X) (hg : Gl X "tuple") (hm : X.mg "tuple" = none) (he : DRg X W e m) (na : starEach [e] X.env = (false, eval e X.env) :: starEach [] X.env := by rfl) : DE X W (.Call (.Name "tuple" p) [e] [] pos) (eTupRg m) := by
  obtain ⟨t, pt, s⟩ := he
  refine ⟨_, pe_tupRg c.calm hg hm pt na, fun B M H ρ σ Q rp k => s B M H ρ σ _ rp (Post.seq k fun ab ρ1 M1 H1 v x1 r1 q1 k1 => ?_)⟩
  subst q1
  split at k1
  · rename_i hc
    refine ⟨hc, fun q hq => post_t k1 r1 rng_rpl ?_ hq⟩
    unfold rngD
    rw [List.length_map, List.length_range, sizeLine_eq]
    exact hc.2.2.2.2
  · exact k1.elim
theorem df_lstRg {m : Env → Res (Int × Int)} (c : Cd X) (hg : Gl X "list") (hm : X.mg "list" = none) (he : DRg X W e m) (na : starEach [e] X.env = (false, eval e X.env) :: starEach [] X.env := by rfl) : DF X W (.Call (.Name "list" p) [e] [] pos) (eLstRg m) := by
  obtain ⟨t, pt, s⟩ := he
  refine ⟨_, pe_listRg c.calm hg hm pt na, fun B M H ρ σ Q rp k => s B M H ρ σ _ rp (Post.seq k fun ab ρ1 M1 H1 v x1 r1 q1 k1 => ?_)⟩
  subst q1
  split at k1
  · rename_i hc
    refine ⟨hc, fun q hq => post_o k1 r1 rng_rpl ?_ hq⟩
    unfold rngD
    rw [List.length_map, List.length_range, sizeLine_eq]
    exact hc.2.2.2.2
  · exact k1.elim
end
end NV

set_option Elab.async false
set_option linter.all false
set_option maxRecDepth 100000
set_option maxHeartbeats 4000000
/-! Core11: the forms that a printed derivation uses. -/
namespace NV
open PySem PySem.Spec PyProof.Rows L2

/-! ### order, wide -/
def lt2 (d e : D) : Option D := match d, e with
  | .int i, .int j => some (.bl (decide (i < j)))
  | d, e => ordO PySem.W.dataLt d e
def gt2 (d e : D) : Option D := match d, e with
  | .int i, .int j => some (.bl (decide (j < i)))
  | d, e => ordO (fun d e => PySem.W.dataLt e d) d e
def le2 (d e : D) : Option D := match d, e with
  | .int i, .int j => some (.bl (decide (i ≤ j)))
  | d, e => ordO (fun d e => !PySem.W.dataLt e d) d e
def ge2 (d e : D) : Option D := match d, e with
  | .int i, .int j => some (.bl (decide (j ≤ i)))
  | d, e => ordO (fun d e => !PySem.W.dataLt d e) d e
section
variable {X : Cx} {W : WX}
def rLt2 (K : PySem.W.Frag) : R2 := fun x y H Q => rI0 (fun i j => .bl (decide (i < j))) x y H Q ∨ rOrd K PySem.W.dataLt x y H Q
def rGt2 (K : PySem.W.Frag) : R2 := fun x y H Q => rI0 (fun i j => .bl (decide (j < i))) x y H Q ∨ rOrd K (fun d e => PySem.W.dataLt e d) x y H Q
def rLe2 (K : PySem.W.Frag) : R2 := fun x y H Q => rI0 (fun i j => .bl (decide (i ≤ j))) x y H Q ∨ rOrd K (fun d e => !PySem.W.dataLt e d) x y H Q
def rGe2 (K : PySem.W.Frag) : R2 := fun x y H Q => rI0 (fun i j => .bl (decide (j ≤ i))) x y H Q ∨ rOrd K (fun d e => !PySem.W.dataLt d e) x y H Q
theorem op_lt2 (c : Cd X) : OpR X (compareOp .Lt) (rLt2 X.K) := op_lt.or (op_ltD c)
theorem op_gt2 (c : Cd X) : OpR X (compareOp .Gt) (rGt2 X.K) := op_gt.or (op_gtD c)
theorem op_le2 (c : Cd X) : OpR X (compareOp .LtE) (rLe2 X.K) := op_le.or (op_leD c)
theorem op_ge2 (c : Cd X) : OpR X (compareOp .GtE) (rGe2 X.K) := op_ge.or (op_geD c)
theorem o_lt2 : OpE X lt2 (rLt2 X.K) := by
  intro B W M H ρ σ d e z x y Q rp hx hy hf h
  unfold lt2 at hf
  split at hf
  · exact .inl (o_lt B W M H ρ σ _ _ z x y Q rp hx hy hf h)
  · exact .inr (o_ord B W M H ρ σ _ _ z x y Q rp hx hy hf h)
theorem o_gt2 : OpE X gt2 (rGt2 X.K) := by
  intro B W M H ρ σ d e z x y Q rp hx hy hf h
  unfold gt2 at hf
  split at hf
  · exact .inl (o_gt B W M H ρ σ _ _ z x y Q rp hx hy hf h)
  · exact .inr (o_ord B W M H ρ σ _ _ z x y Q rp hx hy hf h)
theorem o_le2 : OpE X le2 (rLe2 X.K) := by
  intro B W M H ρ σ d e z x y Q rp hx hy hf h
  unfold le2 at hf
  split at hf
  · exact .inl (o_le B W M H ρ σ _ _ z x y Q rp hx hy hf h)
  · exact .inr (o_ord B W M H ρ σ _ _ z x y Q rp hx hy hf h)
theorem o_ge2 : OpE X ge2 (rGe2 X.K) := by
  intro B W M H ρ σ d e z x y Q rp hx hy hf h
  unfold ge2 at hf
  split at hf
  · exact .inl (o_ge B W M H ρ σ _ _ z x y Q rp hx hy hf h)
  · exact .inr (o_ord B W M H ρ σ _ _ z x y Q rp hx hy hf h)

/-! ### a ghost step that may find nothing to do -/
def sFz (i : Nat) (m : SM) : SM := fun ρ => match ρ[i]? with
  | some (.o d) => m (ρ.set i (.v d))
  | _ => m ρ
theorem ds_fz {st : Stmt} (i : Nat) {m : SM} (h : DS X W st m) : DS X W st (sFz i m) := by
  obtain ⟨t, p, s⟩ := h
  refine ⟨t, p, fun B M H ρ σ E r h => ?_⟩
  unfold sFz at h
  split at h
  · rename_i d hd
    obtain ⟨M', sub, r'⟩ := r.frz hd
    exact s B M' H _ σ E r' (PostS.shift (Ext.sub sub) h)
  · exact s B M H _ σ E r h

/-! ### x = [.. for ..] -/
section
variable {elt tg iter : Expr} {ifs : List Expr} {scope : Scope} {own : List (Str × Nat)} {pos spos py : Pos} {mi : Env → Res (List D)} {g : D → Env → Option Env} {mt : TM} {me : EM} {vs : List Nat} {i : Nat} {y : Str}
theorem ds_setLcO (c : Cd X) (hN : X.N.Nodup) (hy : X.N[i]? = some y) (hyl : X.env.scope.names.lookup y = some .local) (hsw : swapsWith (.ListComp elt [⟨tg, iter, ifs, 0⟩] scope pos) (some (.Name y py)) spos.line X.env = pure true) (hi : DI X W tg iter mi) (ok : BlkOk X.N X.env.scope scope own)
    (hg : ∀ (s : Shared) (H : Hp) (C : Addr) (cl : List (Str × Addr)) (fp : List Addr), DG (X.blk s H scope (compEnvC scope cl C X.env) fp) tg g vs)
    (ht : ∀ (s : Shared) (H : Hp) (C : Addr) (cl : List (Str × Addr)) (fp : List Addr), DTs (X.blk s H scope (compEnvC scope cl C X.env) fp) (fun _ _ _ _ => False) ifs mt)
    (he : ∀ (s : Shared) (H : Hp) (C : Addr) (cl : List (Str × Addr)) (fp : List Addr), DE (X.blk s H scope (compEnvC scope cl C X.env) fp) (fun _ _ _ _ => False) elt me) (ev : own.map (·.2) = vs := by rfl) (hs : ∀ x, foldedSetIterable iter X.env x = pure x := by intro _; rfl) :
    DS X W (.Assign [.Name y py] (.ListComp elt [⟨tg, iter, ifs, 0⟩] scope pos) spos) (sSetO i (eComp mi g mt me vs)) := by
  obtain ⟨wi, pi, si⟩ := hi
  subst ev
  have s := comp_sat (X := X) (W := W) (wi := wi) (mi := mi) (g := g) (mt := mt) (me := me) (vs := own.map (·.2)) si
  refine ⟨_, ps_setLc (tt := ttCan X (fun _ _ _ _ => False) mt) c.calm hN hy hyl hsw pi ok (fun s H C cl fp => can_g (hg s H C cl fp)) (fun s H C cl fp => ht s H C cl fp) (fun s H C cl fp => can_e (he s H C cl fp)) hs, fun B M H ρ σ E r h => s B M H ρ σ _ r (PostS.out (R := RelF X.K B σ) h fun d ρ1 M1 H1 v x1 r1 q1 k1 => ?_)⟩
  obtain ⟨a, rfl, w, hb, an, np⟩ := q1
  exact k1 M1 H1 _ Ext.refl (r1.setO i w hb an np)
theorem ds_setLc (c : Cd X) (hN : X.N.Nodup) (hy : X.N[i]? = some y) (hyl : X.env.scope.names.lookup y = some .local) (hsw : swapsWith (.ListComp elt [⟨tg, iter, ifs, 0⟩] scope pos) (some (.Name y py)) spos.line X.env = pure true) (hi : DI X W tg iter mi) (ok : BlkOk X.N X.env.scope scope own)
    (hg : ∀ (s : Shared) (H : Hp) (C : Addr) (cl : List (Str × Addr)) (fp : List Addr), DG (X.blk s H scope (compEnvC scope cl C X.env) fp) tg g vs)
    (ht : ∀ (s : Shared) (H : Hp) (C : Addr) (cl : List (Str × Addr)) (fp : List Addr), DTs (X.blk s H scope (compEnvC scope cl C X.env) fp) (fun _ _ _ _ => False) ifs mt)
    (he : ∀ (s : Shared) (H : Hp) (C : Addr) (cl : List (Str × Addr)) (fp : List Addr), DE (X.blk s H scope (compEnvC scope cl C X.env) fp) (fun _ _ _ _ => False) elt me) (ev : own.map (·.2) = vs := by rfl) (hs : ∀ x, foldedSetIterable iter X.env x = pure x := by intro _; rfl) :
    DS X W (.Assign [.Name y py] (.ListComp elt [⟨tg, iter, ifs, 0⟩] scope pos) spos) (sSet i (eComp mi g mt me vs)) := by
  obtain ⟨wi, pi, si⟩ := hi
  subst ev
  have s := comp_sat (X := X) (W := W) (wi := wi) (mi := mi) (g := g) (mt := mt) (me := me) (vs := own.map (·.2)) si
  refine ⟨_, ps_setLc (tt := ttCan X (fun _ _ _ _ => False) mt) c.calm hN hy hyl hsw pi ok (fun s H C cl fp => can_g (hg s H C cl fp)) (fun s H C cl fp => ht s H C cl fp) (fun s H C cl fp => can_e (he s H C cl fp)) hs, fun B M H ρ σ E r h => s B M H ρ σ _ r (PostS.out (R := RelF X.K B σ) h fun d ρ1 M1 H1 v x1 r1 q1 k1 => ?_)⟩
  obtain ⟨a, rfl, w, hb, an, np⟩ := q1
  exact k1 _ H1 _ (Ext.sub fun _ z => z.1) ((r1.drop hb an np).setV i w.rp)
end
end

/-! ### defs that are at hand -/
def Has (P : Program) (w : World) (K : PySem.W.Frag) (mg : Str → Option Value) (base : Heap) (k : Nat) (x : Str) (fl : List Bool) (F : List D → FRes) : Prop :=
  ∃ (f : Addr) (fd : FuncData) (ps : List Str), FnOk P w K mg base (L2.CX P w) k f fd ps (spF K mg fl F) ∧ mg x = some (.ref f) ∧ PySem.W.keepIn K (.ref f) = true ∧ Binds K fd ps []
section
variable {X : Cx} {W : WX} {k n : Nat} {x : Str} {p pos : Pos} {e : Expr} {es : List Expr} {fl : List Bool} {F : List D → FRes} {ma : AM}
theorem de_callH (h : Has X.prog X.w X.K X.mg X.base k x fl F) (hr : Room n X.A) (hg : Gl X x) (tk : Takes X W) (ha : DA X W (e :: es) ma) (hk : k ≤ n := by decide)
    (hdb : (x == ("__debug__" : Str)) = false := by decide) (he : starEach (e :: es) X.env = (false, eval e X.env) :: starEach es X.env := by rfl) (hpl : (backTo pos (starEach es X.env)).any (·.1) = false := by rfl) : DE X W (.Call (.Name x p) (e :: es) [] pos) (eCall fl false F ma) := by
  obtain ⟨f, fd, ps, h1, h2, h3, h4⟩ := h
  exact de_call (h1.mono hk) hr hg h2 h3 h4 tk ha hdb he hpl
theorem df_callH (h : Has X.prog X.w X.K X.mg X.base k x fl F) (hr : Room n X.A) (hg : Gl X x) (tk : Takes X W) (ha : DA X W (e :: es) ma) (hk : k ≤ n := by decide)
    (hdb : (x == ("__debug__" : Str)) = false := by decide) (he : starEach (e :: es) X.env = (false, eval e X.env) :: starEach es X.env := by rfl) (hpl : (backTo pos (starEach es X.env)).any (·.1) = false := by rfl) : DF X W (.Call (.Name x p) (e :: es) [] pos) (eCall fl true F ma) := by
  obtain ⟨f, fd, ps, h1, h2, h3, h4⟩ := h
  exact df_call (h1.mono hk) hr hg h2 h3 h4 tk ha hdb he hpl
end
abbrev FnP (K : PySem.W.Frag) (x : Str) (st : Stmt) (f : Addr) (fd : FuncData) : Prop := FunD K x x (defArgs st) (defBody st) (defScope st) [] [] f fd
theorem cd_of {X : Cx} {k : Nat} (hr : Room k X.A) (hc : X.calm = true := by rfl) : Cd X := ⟨hc, hr.units⟩
theorem fn_defD {P : Program} {w : World} {K : PySem.W.Frag} {mg : Str → Option Value} {base : Heap} {x : Str} {st : Stmt} {f : Addr} {fd : FuncData} {N ps : List Str} {k : Nat} {fl : List Bool} {m : SM} (F : FnP K x st f fd) (S : FnScope N ps (defScope st)) (hf : fl.length = ps.length)
    (der : ∀ (cdv : Value) (A : Around) (outer : List PySem.Env) (s : Shared) (H : Hp) (E : XK), Room k (A.deeper (envOfC x (defScope st) s.heap.objs.size f cdv)) →
      DSs (cxOf (L2.CX P w) P w K mg base N x (defScope st) f cdv A outer s H E) (fun c dx _ H' => E c dx H') (defBody st) m) : FnOk P w K mg base (L2.CX P w) (k + 1) f fd ps (spF K mg fl (runF fl N.length m)) := by
  obtain ⟨oc, od, dV, kV, doc, pm, an, cdv, ct, osl, e, lk, hcd, hD, _⟩ := F.ex
  rcases hD with ⟨_, rfl⟩ | ⟨e2, _⟩
  · exact fn_def (F := ⟨⟨oc, od, kV, doc, pm, an, cdv, ct, osl, e, lk, hcd⟩, F.kp⟩) S hf der
  · exact absurd rfl e2
theorem has_of {P : Program} {w : World} {K : PySem.W.Frag} {mg : Str → Option Value} {base : Heap} {x : Str} {st : Stmt} {f : Addr} {fd : FuncData} {ps : List Str} {k : Nat} {fl : List Bool} {F : List D → FRes} (D : FnP K x st f fd) (h : FnOk P w K mg base (L2.CX P w) k f fd ps (spF K mg fl F)) (g : mg x = some (.ref f))
    (hb : ∀ (kV doc pm : Value) (an : Option Addr) (cdv ct : Value) (us : List Value), us.length = ps.length → bindArgs (PySem.W.fnOf x x (defArgs st) (defBody st) (defScope st) .none kV doc pm an cdv ct) ⟨us, []⟩ = pure (ps.zip us)) : Has P w K mg base k x fl F :=
  ⟨f, fd, ps, h, g, D.kp, D.bindsN hb⟩
end NV

set_option Elab.async false
set_option linter.all false
set_option maxRecDepth 100000
set_option maxHeartbeats 4000000
/-! Core12: a law's end. -/
namespace NV
open PySem PySem.Spec PyProof.Rows L2
theorem sqS_of {K : PySem.W.Frag} {H : Hp} {a : Addr} {ns : List Int} (hO : L2.Only H) (h : SqL K H a (ns.map V.int)) : SqS K H a ns := by
  rcases h with (h | ⟨o, h⟩) | h
  · rcases hO a with z | ⟨o, xs, z⟩
    · rw [z] at h; cases h
    · rw [z] at h; cases h
  · exact .inl ⟨o, h⟩
  · exact .inr h
theorem law_end {K : PySem.W.Frag} {mg : Str → Option Value} {H : Hp} {a : Addr} {ns : List Int} {F : List D → FRes} (hO : L2.Only H) (hS : SqL K H a (ns.map V.int)) (hl : ns.length ≤ sizeLine) (hF : F [.scr ns] = .ok (.bl true) []) :
    spF K mg [false] F [.ref a] H (fun v _ => v = .bl true) fun _ _ _ => False := by
  refine ⟨fun _ => False, [.scr ns], [], fun b h => h.elim, List.nodup_nil, ⟨.scr hl (sqS_of hO hS), trivial⟩, ?_⟩
  rw [hF]
  intro H' v _ _ r
  cases r
  rfl
theorem walk_own {l : PySem.W.OpenLaw} {n k : Nat} {q : Program} {loose : List Str} {XP : (Str → Option Value) → Heap → Prop} {YP : World → Heap → Prop} {d : DefRec} {x : Str}
    (hn : l.most = some n) (hn2 : n ≤ sizeLine) (hdf : d.params.defaults = []) (hr : Room k callerA)
    (F : ∀ (w : World) (mg : Str → Option Value) (fa : Addr) (h : Heap), YP w h → h.Ns mainGlobals mg → mg d.name = some (.ref fa) →
      ∃ (K : PySem.W.Frag) (fd : FuncData) (F : List D → FRes), K.In h ∧ (∀ (s : Shared) (u : Value), BindsTo s fd ⟨[u], []⟩ [(x, u)]) ∧
        (∀ ns : List Int, ns.length ≤ n → (∀ z ∈ ns, Builtin.Int.intBits z ≤ 1048576) → F [.scr ns] = .ok (.bl true) []) ∧
        ∀ base : Heap, K.In base → base.Ns mainGlobals mg → FnOk l.prog w K mg base (L2.CX l.prog w) k fa fd [x] (spF K mg [false] F)) :
    PySem.W.WalkO q loose XP YP l.row.toRowW d [] (fun f vs => PySem.call f vs) := by
  refine Att.attach_callB hn hdf fun w s₀ s₁ mg mb fa o pm cd doc a vs ns G Y ho hd hcd hmg hobj hints hlen hbits hg => ?_
  obtain ⟨K, fd, F, KX, hb, hP, hF⟩ := F w mg fa _ Y G.T.g hmg
  exact law_call KX G.T.g G.T.b G.T.builtins G.T.nolimit hg hobj hints (Nat.le_trans hlen hn2) hr hF hb (fun H hO hS => law_end hO hS (Nat.le_trans hlen hn2) (hP ns hlen hbits)) fun H e s' z => by
    obtain ⟨_, _, _, _, _, _, _, _, _, _, _, _, z⟩ := z
    exact z
end NV

set_option Elab.async false
set_option linter.all false
set_option maxRecDepth 100000
set_option maxHeartbeats 4000000
/-! Ev: reckoning with the plain functions. -/
namespace NV
open PySem PySem.Spec PyProof.Rows L2
section
variable {α β : Type}
@[simp] theorem bind_ok' (a : α) (ρ : Env) (f : α → Env → Res β) : (Res.ok a ρ).bind f = f a ρ := rfl
@[simp] theorem bind_exc' (x : Exn) (ρ : Env) (f : α → Env → Res β) : (Res.exc x ρ).bind f = .exc x ρ := rfl
@[simp] theorem bind_bad' (f : α → Env → Res β) : (Res.bad).bind f = .bad := rfl
@[simp] theorem out_ok' (a : α) (ρ : Env) (f : α → Env → Out) : (Res.ok a ρ).out f = f a ρ := rfl
@[simp] theorem out_exc' (x : Exn) (ρ : Env) (f : α → Env → Out) : (Res.exc x ρ : Res α).out f = .exc x ρ := rfl
@[simp] theorem out_bad' (f : α → Env → Out) : (Res.bad : Res α).out f = .bad := rfl
@[simp] theorem ofO_some' (a : α) (ρ : Env) : ofO (some a) ρ = .ok a ρ := rfl
@[simp] theorem ofO_none' (ρ : Env) : ofO (none : Option α) ρ = .bad := rfl
@[simp] theorem noexc_ok (a : α) (ρ : Env) : (Res.ok a ρ).noexc = .ok a ρ := rfl
end
@[simp] theorem oseq_nx (ρ : Env) (f : SM) : (Out.nx ρ).seq f = f ρ := rfl
@[simp] theorem oseq_rt (d : D) (ρ : Env) (f : SM) : (Out.rt d ρ).seq f = .rt d ρ := rfl
@[simp] theorem oseq_rtF (d : D) (ρ : Env) (f : SM) : (Out.rtF d ρ).seq f = .rtF d ρ := rfl
@[simp] theorem oseq_bk (ρ : Env) (f : SM) : (Out.bk ρ).seq f = .bk ρ := rfl
@[simp] theorem oseq_ct (ρ : Env) (f : SM) : (Out.ct ρ).seq f = .ct ρ := rfl
@[simp] theorem oseq_exc (x : Exn) (ρ : Env) (f : SM) : (Out.exc x ρ).seq f = .exc x ρ := rfl
@[simp] theorem sSeq_eq (a b : SM) (ρ : Env) : sSeq a b ρ = (a ρ).seq b := rfl
@[simp] theorem sNil_eq (ρ : Env) : sNil ρ = .nx ρ := rfl
@[simp] theorem sSet_eq (i : Nat) (m : EM) (ρ : Env) : sSet i m ρ = (m ρ).out fun d ρ1 => .nx (ρ1.set i (.v d)) := rfl
@[simp] theorem sSetO_eq (i : Nat) (m : EM) (ρ : Env) : sSetO i m ρ = (m ρ).out fun d ρ1 => .nx (ρ1.set i (.o d)) := rfl
@[simp] theorem sRet_eq (m : EM) (ρ : Env) : sRet m ρ = (m ρ).out fun d ρ1 => .rt d ρ1 := rfl
@[simp] theorem sRetF_eq (m : EM) (ρ : Env) : sRetF m ρ = (m ρ).out fun d ρ1 => .rtF d ρ1 := rfl
@[simp] theorem sRetN_eq (ρ : Env) : sRetN ρ = .rt .non ρ := rfl
@[simp] theorem sIf_eq (c : TM) (a b : SM) (ρ : Env) : sIf c a b ρ = (c ρ).out fun k ρ1 => if k then a ρ1 else b ρ1 := rfl
@[simp] theorem sDrop_eq (m : EM) (ρ : Env) : sDrop m ρ = (m ρ).out fun _ ρ1 => .nx ρ1 := rfl
@[simp] theorem sFor_eq (mi : Env → Res (List D)) (g : D → Env → Option Env) (b : SM) (ρ : Env) : sFor mi g b ρ = (mi ρ).out fun ds ρ1 => forL g b ds ρ1 := rfl
@[simp] theorem eVar_eq (i : Nat) (ρ : Env) : eVar i ρ = match ρ[i]? with
  | some (.v d) => .ok d ρ
  | _ => .bad := rfl
@[simp] theorem rVar_eq (i : Nat) (ρ : Env) : rVar i ρ = match ρ[i]? with
  | some (.v d) => .ok (.val d) ρ
  | some (.o _) => .ok (.own i) ρ
  | some (.p _) => .ok (.own i) ρ
  | _ => .bad := rfl
@[simp] theorem rOf_eq (m : EM) (ρ : Env) : rOf m ρ = (m ρ).bind fun d ρ' => .ok (.val d) ρ' := rfl
@[simp] theorem eC_eq (d : D) (ρ : Env) : eC d ρ = .ok d ρ := rfl
@[simp] theorem get_val (d : D) (ρ : Env) : (RV.val d).get ρ = some d := rfl
@[simp] theorem get_own (i : Nat) (ρ : Env) : (RV.own i).get ρ = match ρ[i]? with
  | some (.o d) => some d
  | some (.p d) => some d
  | _ => none := rfl
@[simp] theorem eOp2_eq (f : D → D → Option D) (ma mb : RM) (ρ : Env) : eOp2 f ma mb ρ = (ma ρ).bind fun x ρ1 => (mb ρ1).bind fun y ρ2 => (ofO (x.get ρ2) ρ2).bind fun d _ => (ofO (y.get ρ2) ρ2).bind fun e _ => ofO (f d e) ρ2 := rfl
@[simp] theorem eChain_eq (f g : D → D → Option D) (ma mb mc : RM) (ρ : Env) : eChain f g ma mb mc ρ = (ma ρ).bind fun x ρ1 => (mb ρ1).bind fun y ρ2 => (ofO (x.get ρ2) ρ2).bind fun d _ => (ofO (y.get ρ2) ρ2).bind fun e _ =>
  (ofO (f d e) ρ2).bind fun z _ => (asB z ρ2).bind fun k _ => if k then (mc ρ2).bind fun w ρ3 => (ofO (y.get ρ3) ρ3).bind fun e' _ => (ofO (w.get ρ3) ρ3).bind fun h _ => ofO (g e' h) ρ3 else .ok (.bl false) ρ2 := rfl
@[simp] theorem tOfE_eq (m : EM) (ρ : Env) : tOfE m ρ = (m ρ).bind asB := rfl
@[simp] theorem asB_bl' (b : Bool) (ρ : Env) : asB (.bl b) ρ = .ok b ρ := rfl
@[simp] theorem tAndM_eq (ma mb : TM) (ρ : Env) : tAndM ma mb ρ = (ma ρ).bind fun k ρ1 => if k then mb ρ1 else .ok false ρ1 := rfl
@[simp] theorem tOrM_eq (ma mb : TM) (ρ : Env) : tOrM ma mb ρ = (ma ρ).bind fun k ρ1 => if k then .ok true ρ1 else mb ρ1 := rfl
@[simp] theorem tNotM_eq (ma : TM) (ρ : Env) : tNotM ma ρ = (ma ρ).bind fun k ρ1 => .ok (!k) ρ1 := rfl
@[simp] theorem tYesM_eq (ρ : Env) : tYesM ρ = .ok true ρ := rfl
@[simp] theorem eIf_eq (mc : TM) (ma mb : EM) (ρ : Env) : eIf mc ma mb ρ = (mc ρ).bind fun k ρ1 => if k then ma ρ1 else mb ρ1 := rfl
@[simp] theorem eAnd_eq (ma mb : EM) (ρ : Env) : eAnd ma mb ρ = (ma ρ).bind fun d ρ1 => (ofO (truthy d) ρ1).bind fun k _ => if k then mb ρ1 else .ok d ρ1 := rfl
@[simp] theorem eOr_eq (ma mb : EM) (ρ : Env) : eOr ma mb ρ = (ma ρ).bind fun d ρ1 => (ofO (truthy d) ρ1).bind fun k _ => if k then .ok d ρ1 else mb ρ1 := rfl
@[simp] theorem eNot_eq (ma : EM) (ρ : Env) : eNot ma ρ = (ma ρ).bind fun d ρ1 => (ofO (truthy d) ρ1).bind fun k _ => .ok (.bl (!k)) ρ1 := rfl
@[simp] theorem truthy_bl (b : Bool) : truthy (.bl b) = some b := rfl
@[simp] theorem truthy_non : truthy .non = some false := rfl
@[simp] theorem truthy_int (i : Int) : truthy (.int i) = some (i != 0) := rfl
@[simp] theorem truthy_tup (xs : List D) : truthy (.tup xs) = some (!xs.isEmpty) := rfl
@[simp] theorem truthy_lst (xs : List D) : truthy (.lst xs) = some (!xs.isEmpty) := rfl
@[simp] theorem lNil_eq (ρ : Env) : lNil ρ = .ok [] ρ := rfl
@[simp] theorem lCons_eq (m : EM) (ms : Env → Res (List D)) (ρ : Env) : lCons m ms ρ = (m ρ).bind fun d ρ1 => (ms ρ1).bind fun ds ρ2 => .ok (d :: ds) ρ2 := rfl
@[simp] theorem aNil_eq (ρ : Env) : aNil ρ = .ok [] ρ := rfl
@[simp] theorem aCons_eq (m : RM) (ms : AM) (ρ : Env) : aCons m ms ρ = (m ρ).bind fun d ρ1 => (ms ρ1).bind fun ds ρ2 => .ok (d :: ds) ρ2 := rfl
theorem sz0 : 0 ≤ sizeLine := Nat.zero_le _
@[simp] theorem eTup_eq (m : Env → Res (List D)) (ρ : Env) : eTup m ρ = (m ρ).bind fun ds ρ1 => if ds.length ≤ 16777216 then .ok (.tup ds) ρ1 else .bad := by
  unfold eTup
  rw [sizeLine_eq]
@[simp] theorem eLst_eq (m : Env → Res (List D)) (ρ : Env) : eLst m ρ = (m ρ).bind fun ds ρ1 => if ds.length ≤ 16777216 then .ok (.lst ds) ρ1 else .bad := by
  unfold eLst
  rw [sizeLine_eq]
@[simp] theorem getAll_nil (ρ : Env) : getAll ρ [] = some [] := rfl
@[simp] theorem getAll_cons (ρ : Env) (r : RV) (rs : List RV) : getAll ρ (r :: rs) = match r.get ρ, getAll ρ rs with
  | some d, some ds => some (d :: ds)
  | _, _ => none := rfl
@[simp] theorem eCallB_eq (f : List D → Option D) (ma : AM) (ρ : Env) : eCallB f ma ρ = (ma ρ).bind fun rs ρ1 => (ofO (getAll ρ1 rs) ρ1).bind fun ds _ => ofO (f ds) ρ1 := rfl
@[simp] theorem eIsT_eq (T : TyN) (m : RM) (ρ : Env) : eIsT T m ρ = (m ρ).bind fun x ρ1 => (ofO (x.get ρ1) ρ1).bind fun d _ => ofO (isT T d) ρ1 := rfl
@[simp] theorem eCall_eq (fl : List Bool) (fr : Bool) (F : List D → FRes) (ma : AM) (ρ : Env) : eCall fl fr F ma ρ = (ma ρ).bind (callG fl fr F) := rfl
@[simp] theorem iVal_eq (m : EM) (ρ : Env) : iVal m ρ = (m ρ).bind fun d ρ1 => ofO (itemsD d) ρ1 := rfl
@[simp] theorem iRange1_eq (m : EM) (ρ : Env) : iRange1 m ρ = (m ρ).bind fun d ρ1 => ofO (rng1 d) ρ1 := rfl
@[simp] theorem iRange2_eq (m1 m2 : EM) (ρ : Env) : iRange2 m1 m2 ρ = (m1 ρ).bind fun d ρ1 => (m2 ρ1).bind fun e ρ2 => ofO (rng2 d e) ρ2 := rfl
@[simp] theorem gRg1_eq (m : EM) (ρ : Env) : gRg1 m ρ = (m ρ).bind fun d ρ1 => match d with
  | .int i => .ok ((0 : Int), i) ρ1
  | _ => .bad := rfl
@[simp] theorem ownGet_eq (ρ : Env) (i : Nat) : ownGet ρ i = (RV.own i).get ρ := rfl
@[simp] theorem eComp_eq (mi : Env → Res (List D)) (g : D → Env → Option Env) (mt : TM) (me : EM) (vs : List Nat) (ρ : Env) : eComp mi g mt me vs ρ = (mi ρ).bind fun ds ρ1 => (compL g mt me vs ds [] ρ1).bind fun acc ρe => .ok (.lst acc) (backE ρ1 vs (wipeE ρe vs)) := rfl
@[simp] theorem gNm_eq (i : Nat) (d : D) (ρ : Env) : gNm i d ρ = some (ρ.set i (.v d)) := rfl
@[simp] theorem itemsD_tup (xs : List D) : itemsD (.tup xs) = some xs := rfl
@[simp] theorem itemsD_lst (xs : List D) : itemsD (.lst xs) = some xs := rfl
@[simp] theorem addD_int (i j : Int) : addD (.int i) (.int j) = some (.int (i + j)) := rfl
@[simp] theorem subD_int (i j : Int) : subD (.int i) (.int j) = some (.int (i - j)) := rfl
@[simp] theorem lt2_int (i j : Int) : lt2 (.int i) (.int j) = some (.bl (decide (i < j))) := rfl
@[simp] theorem gt2_int (i j : Int) : gt2 (.int i) (.int j) = some (.bl (decide (j < i))) := rfl
@[simp] theorem le2_int (i j : Int) : le2 (.int i) (.int j) = some (.bl (decide (i ≤ j))) := rfl
@[simp] theorem ge2_int (i j : Int) : ge2 (.int i) (.int j) = some (.bl (decide (j ≤ i))) := rfl
theorem modD_int {i j : Int} (h : 0 < j) : modD (.int i) (.int j) = some (.int (i % j)) := by
  show (if 0 < j then some (D.int (i % j)) else none) = _
  rw [if_pos h]
theorem fdivD_int {i j : Int} (h : 0 < j) (h2 : j < 1073741824) : fdivD (.int i) (.int j) = some (.int (i / j)) := by
  show (if CDiv i j then some (D.int (i / j)) else none) = _
  rw [if_pos ⟨h, h2⟩]
theorem mulD_int {i j : Int} (h : (-18446744073709551616 < i ∧ i < 18446744073709551616) ∨ (-18446744073709551616 < j ∧ j < 18446744073709551616)) : mulD (.int i) (.int j) = some (.int (i * j)) := by
  have h' : CMul i j := by unfold CMul; omega
  show (if CMul i j then some (D.int (i * j)) else none) = _
  rw [if_pos h']
theorem eqD_int (i j : Int) : eqD (.int i) (.int j) = decide (i = j) := by
  unfold eqD
  simp only [toPy, PyData.eqv]
  by_cases h : i = j <;> simp [h]
@[simp] theorem eqO_int (i j : Int) : eqO (.int i) (.int j) = some (.bl (decide (i = j))) := by
  show (if okD 60 (.int i) = true ∧ okD 60 (.int j) = true then some (D.bl (eqD (.int i) (.int j))) else none) = _
  rw [if_pos ⟨rfl, rfl⟩, eqD_int]
@[simp] theorem neO_int (i j : Int) : neO (.int i) (.int j) = some (.bl (!decide (i = j))) := by
  show (if okD 60 (.int i) = true ∧ okD 60 (.int j) = true then some (D.bl (!eqD (.int i) (.int j))) else none) = _
  rw [if_pos ⟨rfl, rfl⟩, eqD_int]
theorem eqD_bl (i j : Bool) : eqD (.bl i) (.bl j) = decide (i = j) := by
  unfold eqD
  simp only [toPy, PyData.eqv]
  cases i <;> cases j <;> rfl
@[simp] theorem eqO_bl (i j : Bool) : eqO (.bl i) (.bl j) = some (.bl (decide (i = j))) := by
  show (if okD 60 (.bl i) = true ∧ okD 60 (.bl j) = true then some (D.bl (eqD (.bl i) (.bl j))) else none) = _
  rw [if_pos ⟨rfl, rfl⟩, eqD_bl]
@[simp] theorem neO_bl (i j : Bool) : neO (.bl i) (.bl j) = some (.bl (!decide (i = j))) := by
  show (if okD 60 (.bl i) = true ∧ okD 60 (.bl j) = true then some (D.bl (!eqD (.bl i) (.bl j))) else none) = _
  rw [if_pos ⟨rfl, rfl⟩, eqD_bl]
@[simp] theorem isD_bl (d : D) (b : Bool) : isD d (.bl b) = some (.bl (isBl b d)) := rfl
@[simp] theorem isD_non (d : D) : isD d .non = some (.bl (isNon d)) := rfl
@[simp] theorem isntD_bl (d : D) (b : Bool) : isntD d (.bl b) = some (.bl (!isBl b d)) := rfl
@[simp] theorem isntD_non (d : D) : isntD d .non = some (.bl (!isNon d)) := rfl
@[simp] theorem isBl_bl (a b : Bool) : isBl b (.bl a) = decide (a = b) := by
  unfold isBl
  cases a <;> cases b <;> rfl
@[simp] theorem ixN_lit0 (n : Nat) : ixN (n + 1) 0 = some 0 := by
  unfold ixN
  simp <;> omega
/-! ### a def's answer -/
@[simp] theorem runF_eq (fl : List Bool) (n : Nat) (m : SM) (ds : List D) : runF fl n m ds = if ds.length = fl.length then match m (slotsOf fl ds ++ List.replicate (n - ds.length) .no) with
  | .nx ρ => fin fl (.ok .non) ρ
  | .rt d ρ => fin fl (.ok d) ρ
  | .rtF d ρ => fin fl (.okF d) ρ
  | .exc x ρ => fin fl (.exc x) ρ
  | _ => .bad else .bad := rfl
@[simp] theorem slots_nil (ds : List D) : slotsOf [] ds = [] := by cases ds <;> rfl
@[simp] theorem slots_v (fs : List Bool) (d : D) (ds : List D) : slotsOf (false :: fs) (d :: ds) = .v d :: slotsOf fs ds := rfl
@[simp] theorem slots_p (fs : List Bool) (d : D) (ds : List D) : slotsOf (true :: fs) (d :: ds) = .p d :: slotsOf fs ds := rfl
@[simp] theorem owns_nil (ρ : Env) : owns [] ρ = some [] := by cases ρ <;> rfl
@[simp] theorem owns_v (fs : List Bool) (s : Slot) (ρ : Env) : owns (false :: fs) (s :: ρ) = owns fs ρ := rfl
@[simp] theorem owns_p (fs : List Bool) (d : D) (ρ : Env) : owns (true :: fs) (.p d :: ρ) = (owns fs ρ).map fun ds => d :: ds := rfl
@[simp] theorem fin_eq (fl : List Bool) (f : List D → FRes) (ρ : Env) : fin fl f ρ = match owns fl ρ with
  | some os => f os
  | none => .bad := rfl
/-! ### calls -/
theorem call_val {fl : List Bool} {F : List D → FRes} {rs : List RV} {ρ : Env} {ds : List D} {r : D} (h1 : getAll ρ rs = some ds) (h2 : ownIdx fl rs = some []) (hF : F ds = .ok r []) (hl : (lent fl rs).isEmpty = true ∨ r.flat = true) : callG fl false F rs ρ = .ok r ρ := by
  unfold callG
  rw [h1, h2]
  simp only [hF]
  have e : lentOk (lent fl rs) r [] = true := by
    unfold lentOk
    rcases hl with h | h <;> simp [h]
  simp [e, upO]
theorem call_valF {fl : List Bool} {F : List D → FRes} {rs : List RV} {ρ : Env} {ds : List D} {r : D} (h1 : getAll ρ rs = some ds) (h2 : ownIdx fl rs = some []) (hF : F ds = .okF r []) (hl : (lent fl rs).isEmpty = true ∨ r.flatO = true) : callG fl true F rs ρ = .ok r ρ := by
  unfold callG
  rw [h1, h2]
  simp only [hF]
  have e : lentOkF (lent fl rs) r [] = true := by
    unfold lentOkF
    rcases hl with h | h <;> simp [h]
  simp [e, upO]
theorem call_own {fl : List Bool} {F : List D → FRes} {rs : List RV} {ρ : Env} {ds : List D} {r o : D} {i : Nat} (h1 : getAll ρ rs = some ds) (h2 : ownIdx fl rs = some [i]) (hF : F ds = .ok r [o]) (hl : lent fl rs = []) : callG fl false F rs ρ = .ok r (ownSet ρ i o) := by
  unfold callG
  rw [h1, h2]
  simp only [hF, hl]
  have e : lentOk [] r [o] = true := rfl
  simp [e, upO]
end NV

set_option Elab.async false
set_option linter.all false
set_option maxRecDepth 100000
set_option maxHeartbeats 4000000
/-! Ev2: comprehensions, loops, rows of ints. -/
namespace NV
open PySem PySem.Spec PyProof.Rows L2

/-! ### comprehensions -/
/-- nothing changes but the own slot -/
theorem comp_pure {mt : TM} {me : EM} {i : Nat} (e : Slot → Env) (hset : ∀ x y, (e x).set i y = e y) (p : D → Bool) (f : D → D) : ∀ (ds : List D), (∀ d ∈ ds, mt (e (.v d)) = .ok (p d) (e (.v d))) → (∀ d ∈ ds, p d = true → me (e (.v d)) = .ok (f d) (e (.v d))) →
    ∀ (acc : List D) (x : Slot), ∃ y, compL (gNm i) mt me [i] ds acc (e x) = .ok (acc ++ (ds.filter p).map f) (e y)
  | [], _, _, acc, x => ⟨x, by simp [compL]⟩
  | d :: ds, ht, he, acc, x => by
    have h1 := ht d List.mem_cons_self
    have ih := comp_pure e hset p f ds (fun d hd => ht d (List.mem_cons_of_mem _ hd)) (fun d hd => he d (List.mem_cons_of_mem _ hd))
    have es : (wipeE (e x) [i]).set i (.v d) = e (.v d) := by rw [show wipeE (e x) [i] = (e x).set i .no from rfl, hset, hset]
    unfold compL
    simp only [gNm_eq, es, h1, noexc_ok, bind_ok']
    cases hp : p d with
    | true =>
      simp only [if_true, he d List.mem_cons_self hp, noexc_ok, bind_ok']
      obtain ⟨y, e2⟩ := ih (acc ++ [f d]) (.v d)
      exact ⟨y, by rw [e2, List.filter_cons_of_pos hp]; simp⟩
    | false =>
      obtain ⟨y, e2⟩ := ih acc (.v d)
      refine ⟨y, ?_⟩
      simp only [Bool.false_eq_true, if_false]
      rw [e2, List.filter_cons_of_neg (by simp [hp])]
/-- a state goes along, some items are kept -/
theorem comp_some {S : Type} {mt : TM} {me : EM} {i : Nat} (e : S → Slot → Env) (hset : ∀ s x y, (e s x).set i y = e s y) : ∀ (ds : List D), (∀ s, ∀ d ∈ ds, ∃ s' b, mt (e s (.v d)) = .ok b (e s' (.v d))) → (∀ s, ∀ d ∈ ds, me (e s (.v d)) = .ok d (e s (.v d))) →
    ∀ (acc : List D) (s : S) (x : Slot), ∃ s' y out, compL (gNm i) mt me [i] ds acc (e s x) = .ok (acc ++ out) (e s' y) ∧ out.Sublist ds
  | [], _, _, acc, s, x => ⟨s, x, [], by simp [compL], .slnil⟩
  | d :: ds, ht, he, acc, s, x => by
    obtain ⟨s1, b, h1⟩ := ht s d List.mem_cons_self
    have ih := comp_some e hset ds (fun s d hd => ht s d (List.mem_cons_of_mem _ hd)) (fun s d hd => he s d (List.mem_cons_of_mem _ hd))
    have es : (wipeE (e s x) [i]).set i (.v d) = e s (.v d) := by rw [show wipeE (e s x) [i] = (e s x).set i .no from rfl, hset, hset]
    unfold compL
    simp only [gNm_eq, es, h1, noexc_ok, bind_ok']
    cases b with
    | true =>
      simp only [if_true, he s1 d List.mem_cons_self, noexc_ok, bind_ok']
      obtain ⟨s', y, out, e2, sb⟩ := ih (acc ++ [d]) s1 (.v d)
      exact ⟨s', y, d :: out, by rw [e2]; simp, sb.cons_cons _⟩
    | false =>
      obtain ⟨s', y, out, e2, sb⟩ := ih acc s1 (.v d)
      refine ⟨s', y, out, ?_, sb.cons _⟩
      simp only [Bool.false_eq_true, if_false]
      exact e2
/-! ### for -/
theorem for_inv {g : D → Env → Option Env} {body : SM} (I : Env → Prop) : ∀ (ds : List D), (∀ d ∈ ds, ∀ ρ, I ρ → ∃ ρ1 ρ2, g d ρ = some ρ1 ∧ (body ρ1 = .nx ρ2 ∨ body ρ1 = .ct ρ2) ∧ I ρ2) → ∀ ρ, I ρ → ∃ ρ', forL g body ds ρ = .nx ρ' ∧ I ρ'
  | [], _, ρ, h => ⟨ρ, rfl, h⟩
  | d :: ds, hb, ρ, h => by
    obtain ⟨ρ1, ρ2, h1, h2, h3⟩ := hb d List.mem_cons_self ρ h
    obtain ⟨ρ', h4, h5⟩ := for_inv I ds (fun d hd => hb d (List.mem_cons_of_mem _ hd)) ρ2 h3
    refine ⟨ρ', ?_, h5⟩
    unfold forL
    rw [h1]
    rcases h2 with h2 | h2
    · simp only [h2]; exact h4
    · simp only [h2]; exact h4
/-! ### rows of ints -/
def iT (l : List Int) : D := .tup (l.map .int)
theorem okL_ints (n : Nat) : ∀ l : List Int, okL n (l.map D.int) = true
  | [] => by cases n <;> rfl
  | i :: l => by
    show (okD n (.int i) && okL n (l.map D.int)) = true
    rw [okL_ints n l]
    cases n <;> rfl
theorem any_ints (k : Int) : ∀ l : List Int, anyD (.int k) (l.map D.int) = decide (k ∈ l)
  | [] => rfl
  | i :: l => by
    have ih := any_ints k l
    unfold anyD at ih ⊢
    rw [List.map_cons, List.any_cons, ih, eqD_int]
    by_cases h : i = k
    · subst h; simp
    · have h' : ¬ k = i := fun z => h z.symm
      by_cases h2 : k ∈ l <;> simp [h, h', h2]
@[simp] theorem in_ints (k : Int) (l : List Int) : inD (.int k) (.tup (l.map D.int)) = some (.bl (decide (k ∈ l))) := by
  show ((if okD 60 (.int k) = true ∧ okL 60 (l.map D.int) = true then some (anyD (.int k) (l.map D.int)) else none).map D.bl) = _
  rw [if_pos ⟨rfl, okL_ints 60 l⟩, any_ints]
  rfl
@[simp] theorem in_intsL (k : Int) (l : List Int) : inD (.int k) (.lst (l.map D.int)) = some (.bl (decide (k ∈ l))) := by
  show ((if okD 60 (.int k) = true ∧ okL 60 (l.map D.int) = true then some (anyD (.int k) (l.map D.int)) else none).map D.bl) = _
  rw [if_pos ⟨rfl, okL_ints 60 l⟩, any_ints]
  rfl
@[simp] theorem notIn_ints (k : Int) (l : List Int) : notInD (.int k) (.tup (l.map D.int)) = some (.bl (!decide (k ∈ l))) := by
  show ((if okD 60 (.int k) = true ∧ okL 60 (l.map D.int) = true then some (anyD (.int k) (l.map D.int)) else none).map fun b => D.bl (!b)) = _
  rw [if_pos ⟨rfl, okL_ints 60 l⟩, any_ints]
  rfl
theorem eqvAll_ints : ∀ l m : List Int, PyData.eqvAll (toPyL (l.map D.int)) (toPyL (m.map D.int)) = decide (l = m)
  | [], [] => by simp [toPyL, PyData.eqvAll]
  | [], _ :: _ => by simp [toPyL, PyData.eqvAll]
  | _ :: _, [] => by simp [toPyL, PyData.eqvAll]
  | i :: l, j :: m => by
    have ih := eqvAll_ints l m
    have e := eqD_int i j
    unfold eqD at e
    rw [List.map_cons, List.map_cons, toPyL, toPyL, PyData.eqvAll, e, ih]
    by_cases h : i = j <;> by_cases h2 : l = m <;> simp [h, h2]
theorem eqD_iT (l m : List Int) : eqD (.tup (l.map D.int)) (.tup (m.map D.int)) = decide (l = m) := by
  unfold eqD
  rw [toPy, toPy, PyData.eqv, eqvAll_ints]
theorem eqD_iL (l m : List Int) : eqD (.lst (l.map D.int)) (.lst (m.map D.int)) = decide (l = m) := by
  unfold eqD
  rw [toPy, toPy, PyData.eqv, eqvAll_ints]
@[simp] theorem eqO_iT (l m : List Int) : eqO (.tup (l.map D.int)) (.tup (m.map D.int)) = some (.bl (decide (l = m))) := by
  cases m with
  | nil => cases l <;> simp [eqO]
  | cons i m =>
    show (if okD 60 (.tup (l.map D.int)) = true ∧ okD 60 (.tup ((i :: m).map D.int)) = true then some (D.bl (eqD (.tup (l.map D.int)) (.tup ((i :: m).map D.int)))) else none) = _
    rw [if_pos ⟨okL_ints 59 l, okL_ints 59 (i :: m)⟩, eqD_iT]
@[simp] theorem eqO_iT0 (l : List Int) : eqO (.tup (l.map D.int)) (.tup []) = some (.bl (decide (l = []))) := eqO_iT l []
@[simp] theorem neO_iL (l m : List Int) : neO (.lst (l.map D.int)) (.lst (m.map D.int)) = some (.bl (!decide (l = m))) := by
  show (if okD 60 (.lst (l.map D.int)) = true ∧ okD 60 (.lst (m.map D.int)) = true then some (D.bl (!eqD (.lst (l.map D.int)) (.lst (m.map D.int)))) else none) = _
  rw [if_pos ⟨okL_ints 59 l, okL_ints 59 m⟩, eqD_iL]
@[simp] theorem neO_iL0 (l : List Int) : neO (.lst (l.map D.int)) (.lst []) = some (.bl (!decide (l = []))) := neO_iL l []
theorem filter_ints (l : List Int) (p : Int → Bool) (q : D → Bool) (h : ∀ i, q (.int i) = p i) : (l.map D.int).filter q = (l.filter p).map D.int := by
  induction l with
  | nil => rfl
  | cons i l ih =>
    rw [List.map_cons, List.filter_cons, List.filter_cons, h i, ih]
    cases p i <;> rfl
theorem intsOf_map : ∀ l : List Int, intsOf (l.map D.int) = some l
  | [] => rfl
  | i :: l => by
    show (intsOf (l.map D.int)).map _ = _
    rw [intsOf_map l]
    rfl
theorem sub_ints {ds : List D} {l : List Int} (h : ds.Sublist (l.map D.int)) : ∃ m : List Int, m.Sublist l ∧ ds = m.map D.int := by
  obtain ⟨m, h1, h2⟩ := List.sublist_map_iff.mp h
  exact ⟨m, h1, h2⟩
/-- the int behind a datum -/
def toI : D → Int
  | .int i => i
  | _ => 0
theorem map_toI (l : List Int) : (l.map D.int).map (fun d => D.int (toI d)) = l.map D.int := by
  rw [List.map_map]
  rfl
end NV

set_option Elab.async false
set_option linter.all false
set_option maxRecDepth 100000
set_option maxHeartbeats 4000000
namespace NV
open PySem PySem.Spec PyProof.Rows L2
def top (i : Nat) : Stmt := PySem.Challenge.pw_neversoon_k15_breaches_held.main.body.getD i (.Pass ⟨0, 0, 0, 0⟩)
theorem bt_bool : bootBuiltins "bool" = some (.type "bool") := by decide +kernel
theorem bt_int : bootBuiltins "int" = some (.type "int") := by decide +kernel
theorem bt_isinstance : bootBuiltins "isinstance" = some (.builtin "isinstance") := by decide +kernel
theorem bt_len : bootBuiltins "len" = some (.builtin "len") := by decide +kernel
theorem bt_max : bootBuiltins "max" = some (.builtin "max") := by decide +kernel
theorem bt_min : bootBuiltins "min" = some (.builtin "min") := by decide +kernel
theorem bt_tuple : bootBuiltins "tuple" = some (.type "tuple") := by decide +kernel
/-! less_of -/
abbrev S_less_of : Stmt := top 1
abbrev N_less_of : List Str := ["one", "other", "alone", "rule"]
theorem sc_less_of : FnScope N_less_of ["one", "other"] (defScope S_less_of) := ⟨rfl, rfl, rfl, by decide +kernel, rfl, by decide +kernel, by decide +kernel⟩
def m_less_of : SM := (sSeq (sSet 2 (eOp2 catD (rOf (eComp (iVal (eVar 0)) (gNm 3) (tOfE (eOp2 notInD (rVar 3) (rVar 1))) (eVar 3) [3])) (rOf (eComp (iVal (eVar 1)) (gNm 3) (tOfE (eOp2 notInD (rVar 3) (rVar 0))) (eVar 3) [3])))) (sRet (eAnd (eOp2 neO (rVar 2) (rOf (eLst lNil))) (eOp2 inD (rOf (eCallB minD (aCons (rVar 2) aNil))) (rVar 1)))))
def F_less_of : List D → FRes := runF [false, false] 4 m_less_of
theorem fn_less_of {P : Program} {w : World} {K : PySem.W.Frag} {mg : Str → Option Value} {base : Heap} {f : Addr} {fd : FuncData} (D : FnP K "less_of" S_less_of f fd)  (n_min : mg "min" = none) : FnOk P w K mg base (L2.CX P w) 1 f fd ["one", "other"] (spF K mg [false, false] F_less_of) := by
  refine fn_defD (k := 0) D sc_less_of rfl fun cdv A outer s H E hr => ?_
  have c := cd_of (X := cxOf (L2.CX P w) P w K mg base N_less_of "less_of" (defScope S_less_of) f cdv A outer s H E) hr
  have tk := takes_of (X := cxOf (L2.CX P w) P w K mg base N_less_of "less_of" (defScope S_less_of) f cdv A outer s H E) (E := E) rfl rfl rfl rfl
  have nd := sc_less_of.nd
  exact (dss_cons (ds_set (i := 2) nd rfl (by first | exact Or.inl rfl | exact Or.inr rfl) (de_f (df_op op_cat o_cat (dr_e (de_f (df_comp c nd (di_val (de_var (pv 0))) (blkOk_by (N := N_less_of) (sc := defScope S_less_of) (own := [("rule", 3)]) (by decide +kernel)) (fun _ _ _ _ _ => (dg_name (i := 3) nd rfl (by first | exact Or.inl rfl | exact Or.inr rfl))) (fun _ _ _ _ _ => (dts_one (dt_cmp (op_notIn c.blk) o_notIn (dr_var (pv 3)) (dr_var (pv 1)) (by with_unfolding_all rfl)))) (fun _ _ _ _ _ => (de_var (pv 3)))))) (dr_e (de_f (df_comp c nd (di_val (de_var (pv 1))) (blkOk_by (N := N_less_of) (sc := defScope S_less_of) (own := [("rule", 3)]) (by decide +kernel)) (fun _ _ _ _ _ => (dg_name (i := 3) nd rfl (by first | exact Or.inl rfl | exact Or.inr rfl))) (fun _ _ _ _ _ => (dts_one (dt_cmp (op_notIn c.blk) o_notIn (dr_var (pv 3)) (dr_var (pv 0)) (by with_unfolding_all rfl)))) (fun _ _ _ _ _ => (de_var (pv 3))))))))) (dss_one (ds_ret (de_and (de_cmp (op_ne2 c) o_ne (dr_var (pv 2)) (dr_e (de_f (df_lst dl_nil))) (by with_unfolding_all rfl)) (de_one (de_cmp (op_in c) o_in (dr_e (de_callB (cr_min c.calm) f_min rfl n_min bt_min (da_cons (dr_var (pv 2)) da_nil))) (dr_var (pv 1)) (by with_unfolding_all rfl)))))))
theorem has_less_of {P : Program} {w : World} {K : PySem.W.Frag} {mg : Str → Option Value} {base : Heap} {f : Addr} {fd : FuncData} (D : FnP K "less_of" S_less_of f fd) (g : mg "less_of" = some (.ref f))  (n_min : mg "min" = none) : Has P w K mg base 1 "less_of" [false, false] F_less_of :=
  has_of D (fn_less_of D n_min) g (fun _ _ _ _ _ _ us hl => match us, hl with | [_, _], _ => rfl)
/-! _law_cell -/
abbrev S__law_cell : Stmt := top 4
abbrev N__law_cell : List Str := ["_law_script", "_law_k", "_law_state", "_law_cell_here"]
theorem sc__law_cell : FnScope N__law_cell ["_law_script", "_law_k"] (defScope S__law_cell) := ⟨rfl, rfl, rfl, by decide +kernel, rfl, by decide +kernel, by decide +kernel⟩
def m__law_cell : SM := (sSeq (sIf (tOfE (eOp2 lt2 (rVar 1) (rOf (eCallB lenD (aCons (rVar 0) aNil))))) (sRet (eOp2 ixD (rVar 0) (rVar 1))) sNil) (sSeq (sSet 2 (eOp2 modD (rOf (eOp2 mulD (rOf (eC (.int 60013))) (rOf (eOp2 addD (rOf (eOp2 addD (rOf (eOp2 mulD (rVar 1) (rVar 1))) (rOf (eOp2 mulD (rOf (eC (.int 5))) (rVar 1))))) (rOf (eC (.int 3))))))) (rOf (eC (.int 1000000007))))) (sSeq (sFor (iVal (eSl (rVar 0) oNo (oSome (eC (.int 4))))) (gNm 3) (sSet 2 (eOp2 modD (rOf (eOp2 addD (rOf (eOp2 mulD (rVar 2) (rOf (eC (.int 30011))))) (rVar 3))) (rOf (eC (.int 1000000007)))))) (sRet (eVar 2)))))
def F__law_cell : List D → FRes := runF [false, false] 4 m__law_cell
theorem fn__law_cell {P : Program} {w : World} {K : PySem.W.Frag} {mg : Str → Option Value} {base : Heap} {f : Addr} {fd : FuncData} (D : FnP K "_law_cell" S__law_cell f fd)  (n_len : mg "len" = none) : FnOk P w K mg base (L2.CX P w) 1 f fd ["_law_script", "_law_k"] (spF K mg [false, false] F__law_cell) := by
  refine fn_defD (k := 0) D sc__law_cell rfl fun cdv A outer s H E hr => ?_
  have c := cd_of (X := cxOf (L2.CX P w) P w K mg base N__law_cell "_law_cell" (defScope S__law_cell) f cdv A outer s H E) hr
  have tk := takes_of (X := cxOf (L2.CX P w) P w K mg base N__law_cell "_law_cell" (defScope S__law_cell) f cdv A outer s H E) (E := E) rfl rfl rfl rfl
  have nd := sc__law_cell.nd
  exact (dss_cons (ds_if (dt_cmp (op_lt2 c) o_lt2 (dr_var (pv 1)) (dr_e (de_callB call_len f_len rfl n_len bt_len (da_cons (dr_var (pv 0)) da_nil))) (by with_unfolding_all rfl)) (dss_one (ds_ret (de_ix c (dr_var (pv 0)) (dr_var (pv 1))))) dss_nil) (dss_cons (ds_set (i := 2) nd rfl (by first | exact Or.inl rfl | exact Or.inr rfl) (de_op op_mod o_mod (dr_e (de_op op_mul2 o_mul (dr_e de_int) (dr_e (de_op op_add4 o_add (dr_e (de_op op_add4 o_add (dr_e (de_op op_mul2 o_mul (dr_var (pv 1)) (dr_var (pv 1)))) (dr_e (de_op op_mul2 o_mul (dr_e de_int) (dr_var (pv 1)))))) (dr_e de_int))))) (dr_e de_int))) (dss_cons (ds_for c (passes_of rfl) (di_val (de_sl (dr_var (pv 0)) do_none (do_some de_int))) (dg_name (i := 3) nd rfl (by first | exact Or.inl rfl | exact Or.inr rfl)) (dss_one (ds_set (i := 2) nd rfl (by first | exact Or.inl rfl | exact Or.inr rfl) (de_op op_mod o_mod (dr_e (de_op op_add4 o_add (dr_e (de_op op_mul2 o_mul (dr_var (pv 2)) (dr_e de_int))) (dr_var (pv 3)))) (dr_e de_int))))) (dss_one (ds_ret (de_var (pv 2)))))))
theorem has__law_cell {P : Program} {w : World} {K : PySem.W.Frag} {mg : Str → Option Value} {base : Heap} {f : Addr} {fd : FuncData} (D : FnP K "_law_cell" S__law_cell f fd) (g : mg "_law_cell" = some (.ref f))  (n_len : mg "len" = none) : Has P w K mg base 1 "_law_cell" [false, false] F__law_cell :=
  has_of D (fn__law_cell D n_len) g (fun _ _ _ _ _ _ us hl => match us, hl with | [_, _], _ => rfl)
/-! _law_purse -/
abbrev S__law_purse : Stmt := top 5
abbrev N__law_purse : List Str := ["_law_cell_here"]
theorem sc__law_purse : FnScope N__law_purse ["_law_cell_here"] (defScope S__law_purse) := ⟨rfl, rfl, rfl, by decide +kernel, rfl, by decide +kernel, by decide +kernel⟩
def m__law_purse : SM := (sRetF (eLst (lCons (eOp2 addD (rOf (eOp2 mulD (rOf (eOp2 modD (rVar 0) (rOf (eC (.int 999999937))))) (rOf (eC (.int 7907))))) (rOf (eC (.int 4409)))) (lCons (eOp2 ixD (rOf (eLst (lCons (eC (.int 0)) (lCons (eVar 0) lNil)))) (rOf (eCallB intD (aCons (rOf (eOp2 ge2 (rVar 0) (rOf (eOp2 powD (rOf (eC (.int 10))) (rOf (eC (.int 18))))))) aNil)))) (lCons (eC (.int 0)) lNil)))))
def F__law_purse : List D → FRes := runF [false] 1 m__law_purse
theorem fn__law_purse {P : Program} {w : World} {K : PySem.W.Frag} {mg : Str → Option Value} {base : Heap} {f : Addr} {fd : FuncData} (D : FnP K "_law_purse" S__law_purse f fd)  (n_int : mg "int" = none) : FnOk P w K mg base (L2.CX P w) 1 f fd ["_law_cell_here"] (spF K mg [false] F__law_purse) := by
  refine fn_defD (k := 0) D sc__law_purse rfl fun cdv A outer s H E hr => ?_
  have c := cd_of (X := cxOf (L2.CX P w) P w K mg base N__law_purse "_law_purse" (defScope S__law_purse) f cdv A outer s H E) hr
  have tk := takes_of (X := cxOf (L2.CX P w) P w K mg base N__law_purse "_law_purse" (defScope S__law_purse) f cdv A outer s H E) (E := E) rfl rfl rfl rfl
  have nd := sc__law_purse.nd
  exact (dss_one (ds_retF (df_lst (dl_cons (de_op op_add4 o_add (dr_e (de_op op_mul2 o_mul (dr_e (de_op op_mod o_mod (dr_var (pv 0)) (dr_e de_int))) (dr_e de_int))) (dr_e de_int)) (dl_cons (de_ix c (dr_e (de_f (df_lst (dl_cons de_int (dl_cons (de_var (pv 0)) dl_nil))))) (dr_e (de_callT call_int1 f_int rfl n_int bt_int (da_cons (dr_e (de_cmp (op_ge2 c) o_ge2 (dr_var (pv 0)) (dr_e (de_op op_pow o_pow (dr_e de_int) (dr_e de_int))) (by with_unfolding_all rfl))) da_nil)))) (dl_cons de_int dl_nil))))))
theorem has__law_purse {P : Program} {w : World} {K : PySem.W.Frag} {mg : Str → Option Value} {base : Heap} {f : Addr} {fd : FuncData} (D : FnP K "_law_purse" S__law_purse f fd) (g : mg "_law_purse" = some (.ref f))  (n_int : mg "int" = none) : Has P w K mg base 1 "_law_purse" [false] F__law_purse :=
  has_of D (fn__law_purse D n_int) g (fun _ _ _ _ _ _ us hl => match us, hl with | [_], _ => rfl)
/-! _law_pick -/
abbrev S__law_pick : Stmt := top 6
abbrev N__law_pick : List Str := ["_law_purse_here", "_law_many", "_law_state", "_law_taken"]
theorem sc__law_pick : FnScope N__law_pick ["_law_purse_here", "_law_many"] (defScope S__law_pick) := ⟨rfl, rfl, rfl, by decide +kernel, rfl, by decide +kernel, by decide +kernel⟩
def m__law_pick : SM := (sSeq (sSetIx 0 (eOp2 addD (rOf (eOp2 ixD (rVar 0) (rOf (eC (.int 2))))) (rOf (eC (.int 1)))) (eC (.int 2))) (sSeq (sSet 2 (eOp2 modD (rOf (eOp2 ixD (rVar 0) (rOf (eC (.int 0))))) (rOf (eC (.int 999999937))))) (sSeq (sSetIx 0 (eOp2 addD (rOf (eOp2 mulD (rVar 2) (rOf (eOp2 addD (rOf (eOp2 modD (rVar 2) (rOf (eC (.int 30013))))) (rOf (eC (.int 20011))))))) (rOf (eOp2 mulD (rOf (eC (.int 70001))) (rOf (eOp2 ixD (rVar 0) (rOf (eC (.int 2)))))))) (eC (.int 0))) (sSeq (sIf (tOfE (eOp2 gt2 (rOf (eOp2 ixD (rVar 0) (rOf (eC (.int 1))))) (rOf (eC (.int 0))))) (sSeq (sSet 3 (eOp2 modD (rOf (eOp2 ixD (rVar 0) (rOf (eC (.int 1))))) (rVar 1))) (sSeq (sSetIx 0 (eOp2 fdivD (rOf (eOp2 ixD (rVar 0) (rOf (eC (.int 1))))) (rVar 1)) (eC (.int 1))) (sRet (eVar 3)))) sNil) (sRet (eOp2 modD (rOf (eOp2 fdivD (rOf (eOp2 modD (rOf (eOp2 ixD (rVar 0) (rOf (eC (.int 0))))) (rOf (eC (.int 999999937))))) (rOf (eC (.int 8))))) (rVar 1)))))))
def F__law_pick : List D → FRes := runF [true, false] 4 m__law_pick
theorem fn__law_pick {P : Program} {w : World} {K : PySem.W.Frag} {mg : Str → Option Value} {base : Heap} {f : Addr} {fd : FuncData} (D : FnP K "_law_pick" S__law_pick f fd)   : FnOk P w K mg base (L2.CX P w) 1 f fd ["_law_purse_here", "_law_many"] (spF K mg [true, false] F__law_pick) := by
  refine fn_defD (k := 0) D sc__law_pick rfl fun cdv A outer s H E hr => ?_
  have c := cd_of (X := cxOf (L2.CX P w) P w K mg base N__law_pick "_law_pick" (defScope S__law_pick) f cdv A outer s H E) hr
  have tk := takes_of (X := cxOf (L2.CX P w) P w K mg base N__law_pick "_law_pick" (defScope S__law_pick) f cdv A outer s H E) (E := E) rfl rfl rfl rfl
  have nd := sc__law_pick.nd
  exact (dss_cons (ds_setIx (i := 0) (pv 0) (de_op op_add4 o_add (dr_e (de_ix c (dr_var (pv 0)) (dr_e de_int))) (dr_e de_int)) de_int) (dss_cons (ds_set (i := 2) nd rfl (by first | exact Or.inl rfl | exact Or.inr rfl) (de_op op_mod o_mod (dr_e (de_ix c (dr_var (pv 0)) (dr_e de_int))) (dr_e de_int))) (dss_cons (ds_setIx (i := 0) (pv 0) (de_op op_add4 o_add (dr_e (de_op op_mul2 o_mul (dr_var (pv 2)) (dr_e (de_op op_add4 o_add (dr_e (de_op op_mod o_mod (dr_var (pv 2)) (dr_e de_int))) (dr_e de_int))))) (dr_e (de_op op_mul2 o_mul (dr_e de_int) (dr_e (de_ix c (dr_var (pv 0)) (dr_e de_int)))))) de_int) (dss_cons (ds_if (dt_cmp (op_gt2 c) o_gt2 (dr_e (de_ix c (dr_var (pv 0)) (dr_e de_int))) (dr_e de_int) (by with_unfolding_all rfl)) (dss_cons (ds_set (i := 3) nd rfl (by first | exact Or.inl rfl | exact Or.inr rfl) (de_op op_mod o_mod (dr_e (de_ix c (dr_var (pv 0)) (dr_e de_int))) (dr_var (pv 1)))) (dss_cons (ds_setIx (i := 0) (pv 0) (de_op op_fdiv o_fdiv (dr_e (de_ix c (dr_var (pv 0)) (dr_e de_int))) (dr_var (pv 1))) de_int) (dss_one (ds_ret (de_var (pv 3)))))) dss_nil) (dss_one (ds_ret (de_op op_mod o_mod (dr_e (de_op op_fdiv o_fdiv (dr_e (de_op op_mod o_mod (dr_e (de_ix c (dr_var (pv 0)) (dr_e de_int))) (dr_e de_int))) (dr_e de_int))) (dr_var (pv 1)))))))))
theorem has__law_pick {P : Program} {w : World} {K : PySem.W.Frag} {mg : Str → Option Value} {base : Heap} {f : Addr} {fd : FuncData} (D : FnP K "_law_pick" S__law_pick f fd) (g : mg "_law_pick" = some (.ref f))   : Has P w K mg base 1 "_law_pick" [true, false] F__law_pick :=
  has_of D (fn__law_pick D ) g (fun _ _ _ _ _ _ us hl => match us, hl with | [_, _], _ => rfl)
/-! _law_less -/
abbrev S__law_less : Stmt := top 7
abbrev N__law_less : List Str := ["_law_one", "_law_other", "_law_alone", "_law_k"]
theorem sc__law_less : FnScope N__law_less ["_law_one", "_law_other"] (defScope S__law_less) := ⟨rfl, rfl, rfl, by decide +kernel, rfl, by decide +kernel, by decide +kernel⟩
def m__law_less : SM := (sSeq (sSet 2 (eComp (iRange1 (eC (.int 12))) (gNm 3) (tOfE (eOp2 neO (rOf (eOp2 inD (rVar 3) (rVar 0))) (rOf (eOp2 inD (rVar 3) (rVar 1))))) (eVar 3) [3])) (sRet (eAnd (eOp2 neO (rVar 2) (rOf (eLst lNil))) (eOp2 inD (rOf (eOp2 ixD (rVar 2) (rOf (eC (.int 0))))) (rVar 1)))))
def F__law_less : List D → FRes := runF [false, false] 4 m__law_less
theorem fn__law_less {P : Program} {w : World} {K : PySem.W.Frag} {mg : Str → Option Value} {base : Heap} {f : Addr} {fd : FuncData} (D : FnP K "_law_less" S__law_less f fd)  (n_range : mg "range" = none) : FnOk P w K mg base (L2.CX P w) 1 f fd ["_law_one", "_law_other"] (spF K mg [false, false] F__law_less) := by
  refine fn_defD (k := 0) D sc__law_less rfl fun cdv A outer s H E hr => ?_
  have c := cd_of (X := cxOf (L2.CX P w) P w K mg base N__law_less "_law_less" (defScope S__law_less) f cdv A outer s H E) hr
  have tk := takes_of (X := cxOf (L2.CX P w) P w K mg base N__law_less "_law_less" (defScope S__law_less) f cdv A outer s H E) (E := E) rfl rfl rfl rfl
  have nd := sc__law_less.nd
  exact (dss_cons (ds_setLc (i := 2) c nd rfl rfl (sw_true rfl rfl rfl (by decide +kernel)) (di_range1 rfl n_range de_int) (blkOk_by (N := N__law_less) (sc := defScope S__law_less) (own := [("_law_k", 3)]) (by decide +kernel)) (fun _ _ _ _ _ => (dg_name (i := 3) nd rfl (by first | exact Or.inl rfl | exact Or.inr rfl))) (fun _ _ _ _ _ => (dts_one (dt_cmp (op_ne2 c.blk) o_ne (dr_e (de_cmp (op_in c.blk) o_in (dr_var (pv 3)) (dr_var (pv 0)) (by with_unfolding_all rfl))) (dr_e (de_cmp (op_in c.blk) o_in (dr_var (pv 3)) (dr_var (pv 1)) (by with_unfolding_all rfl))) (by with_unfolding_all rfl)))) (fun _ _ _ _ _ => (de_var (pv 3)))) (dss_one (ds_ret (de_and (de_cmp (op_ne2 c) o_ne (dr_var (pv 2)) (dr_e (de_f (df_lst dl_nil))) (by with_unfolding_all rfl)) (de_one (de_cmp (op_in c) o_in (dr_e (de_ix c (dr_var (pv 2)) (dr_e de_int))) (dr_var (pv 1)) (by with_unfolding_all rfl)))))))
theorem has__law_less {P : Program} {w : World} {K : PySem.W.Frag} {mg : Str → Option Value} {base : Heap} {f : Addr} {fd : FuncData} (D : FnP K "_law_less" S__law_less f fd) (g : mg "_law_less" = some (.ref f))  (n_range : mg "range" = none) : Has P w K mg base 1 "_law_less" [false, false] F__law_less :=
  has_of D (fn__law_less D n_range) g (fun _ _ _ _ _ _ us hl => match us, hl with | [_, _], _ => rfl)
/-! breaks_less -/
abbrev S_breaks_less : Stmt := top 2
abbrev N_breaks_less : List Str := ["one", "other"]
theorem sc_breaks_less : FnScope N_breaks_less ["one", "other"] (defScope S_breaks_less) := ⟨rfl, rfl, rfl, by decide +kernel, rfl, by decide +kernel, by decide +kernel⟩
def m_breaks_less : SM := (sRet (eCall [false, false] false F_less_of (aCons (rVar 0) (aCons (rVar 1) aNil))))
def F_breaks_less : List D → FRes := runF [false, false] 2 m_breaks_less
theorem fn_breaks_less {P : Program} {w : World} {K : PySem.W.Frag} {mg : Str → Option Value} {base : Heap} {f : Addr} {fd : FuncData} (D : FnP K "breaks_less" S_breaks_less f fd) (h_less_of : Has P w K mg base 1 "less_of" [false, false] F_less_of)  : FnOk P w K mg base (L2.CX P w) 2 f fd ["one", "other"] (spF K mg [false, false] F_breaks_less) := by
  refine fn_defD (k := 1) D sc_breaks_less rfl fun cdv A outer s H E hr => ?_
  have c := cd_of (X := cxOf (L2.CX P w) P w K mg base N_breaks_less "breaks_less" (defScope S_breaks_less) f cdv A outer s H E) hr
  have tk := takes_of (X := cxOf (L2.CX P w) P w K mg base N_breaks_less "breaks_less" (defScope S_breaks_less) f cdv A outer s H E) (E := E) rfl rfl rfl rfl
  have nd := sc_breaks_less.nd
  exact (dss_one (ds_ret (de_callH h_less_of hr rfl tk (da_cons (dr_var (pv 0)) (da_cons (dr_var (pv 1)) da_nil)))))
theorem has_breaks_less {P : Program} {w : World} {K : PySem.W.Frag} {mg : Str → Option Value} {base : Heap} {f : Addr} {fd : FuncData} (D : FnP K "breaks_less" S_breaks_less f fd) (g : mg "breaks_less" = some (.ref f)) (h_less_of : Has P w K mg base 1 "less_of" [false, false] F_less_of)  : Has P w K mg base 2 "breaks_less" [false, false] F_breaks_less :=
  has_of D (fn_breaks_less D h_less_of) g (fun _ _ _ _ _ _ us hl => match us, hl with | [_, _], _ => rfl)
/-! _law_some -/
abbrev S__law_some : Stmt := top 8
abbrev N__law_some : List Str := ["_law_purse_here", "_law_ahead", "_law_kind", "_law_at", "_law_k"]
theorem sc__law_some : FnScope N__law_some ["_law_purse_here", "_law_ahead"] (defScope S__law_some) := ⟨rfl, rfl, rfl, by decide +kernel, rfl, by decide +kernel, by decide +kernel⟩
def m__law_some : SM := (sSeq (sSet 2 (eCall [true, false] false F__law_pick (aCons (rVar 0) (aCons (rOf (eC (.int 4))) aNil)))) (sSeq (sIf (tOrM (tOfE (eOp2 eqO (rVar 2) (rOf (eC (.int 0))))) (tOfE (eOp2 isD (rVar 1) (rOf (eC .non))))) (sRet (eCallB tupleD (aCons (rOf (eComp (iRange1 (eC (.int 12))) (gNm 4) (tOfE (eOp2 eqO (rOf (eCall [true, false] false F__law_pick (aCons (rVar 0) (aCons (rOf (eC (.int 2))) aNil)))) (rOf (eC (.int 1))))) (eVar 4) [4])) aNil))) sNil) (sSeq (sSet 3 (eCall [true, false] false F__law_pick (aCons (rVar 0) (aCons (rOf (eC (.int 12))) aNil)))) (sSeq (sIf (tOfE (eOp2 eqO (rVar 2) (rOf (eC (.int 1))))) (sRet (eCallB tupleD (aCons (rOf (eComp (iRange1 (eC (.int 12))) (gNm 4) (tOfE (eOp2 neO (rOf (eOp2 inD (rVar 4) (rVar 1))) (rOf (eOp2 eqO (rVar 4) (rVar 3))))) (eVar 4) [4])) aNil))) sNil) (sSeq (sIf (tOfE (eOp2 eqO (rVar 2) (rOf (eC (.int 2))))) (sRet (eCallB tupleD (aCons (rOf (eComp (iRange1 (eC (.int 12))) (gNm 4) (tOrM (tAndM (tOfE (eOp2 inD (rVar 4) (rVar 1))) (tOfE (eOp2 lt2 (rVar 4) (rVar 3)))) (tAndM (tOfE (eOp2 gt2 (rVar 4) (rVar 3))) (tOfE (eOp2 eqO (rOf (eCall [true, false] false F__law_pick (aCons (rVar 0) (aCons (rOf (eC (.int 2))) aNil)))) (rOf (eC (.int 1))))))) (eVar 4) [4])) aNil))) sNil) (sRet (eOp2 ixD (rOf (eLst (lCons (eVar 1) (lCons (eTup lNil) (lCons (eTupRg (gRg1 (eC (.int 12)))) (lCons (eTup (lCons (eVar 3) lNil)) lNil)))))) (rOf (eCall [true, false] false F__law_pick (aCons (rVar 0) (aCons (rOf (eC (.int 4))) aNil)))))))))))
def F__law_some : List D → FRes := runF [true, false] 5 m__law_some
theorem fn__law_some {P : Program} {w : World} {K : PySem.W.Frag} {mg : Str → Option Value} {base : Heap} {f : Addr} {fd : FuncData} (D : FnP K "_law_some" S__law_some f fd) (h__law_pick : Has P w K mg base 1 "_law_pick" [true, false] F__law_pick) (n_range : mg "range" = none) (n_tuple : mg "tuple" = none) : FnOk P w K mg base (L2.CX P w) 2 f fd ["_law_purse_here", "_law_ahead"] (spF K mg [true, false] F__law_some) := by
  refine fn_defD (k := 1) D sc__law_some rfl fun cdv A outer s H E hr => ?_
  have c := cd_of (X := cxOf (L2.CX P w) P w K mg base N__law_some "_law_some" (defScope S__law_some) f cdv A outer s H E) hr
  have tk := takes_of (X := cxOf (L2.CX P w) P w K mg base N__law_some "_law_some" (defScope S__law_some) f cdv A outer s H E) (E := E) rfl rfl rfl rfl
  have nd := sc__law_some.nd
  exact (dss_cons (ds_set (i := 2) nd rfl (by first | exact Or.inl rfl | exact Or.inr rfl) (de_callH h__law_pick hr rfl tk (da_cons (dr_var (pv 0)) (da_cons (dr_e de_int) da_nil)))) (dss_cons (ds_if (dt_w (dw_or (dt_cmp (op_eq2 c) o_eq (dr_var (pv 2)) (dr_e de_int) (by with_unfolding_all rfl)) (dw_or1 (dt_cmp op_isC o_is (dr_var (pv 1)) (dr_e de_non) (by with_unfolding_all rfl))))) (dss_one (ds_ret (de_callT call_tuple_of f_tuple rfl n_tuple bt_tuple (da_cons (dr_e (de_f (df_comp c nd (di_range1 rfl n_range de_int) (blkOk_by (N := N__law_some) (sc := defScope S__law_some) (own := [("_law_k", 4)]) (by decide +kernel)) (fun _ _ _ _ _ => (dg_name (i := 4) nd rfl (by first | exact Or.inl rfl | exact Or.inr rfl))) (fun _ _ _ _ _ => (dts_one (dt_cmp (op_eq2 c.blk) o_eq (dr_e (de_callH h__law_pick hr rfl takes0 (da_cons (dr_var (pv 0)) (da_cons (dr_e de_int) da_nil)))) (dr_e de_int) (by with_unfolding_all rfl)))) (fun _ _ _ _ _ => (de_var (pv 4)))))) da_nil)))) dss_nil) (dss_cons (ds_set (i := 3) nd rfl (by first | exact Or.inl rfl | exact Or.inr rfl) (de_callH h__law_pick hr rfl tk (da_cons (dr_var (pv 0)) (da_cons (dr_e de_int) da_nil)))) (dss_cons (ds_if (dt_cmp (op_eq2 c) o_eq (dr_var (pv 2)) (dr_e de_int) (by with_unfolding_all rfl)) (dss_one (ds_ret (de_callT call_tuple_of f_tuple rfl n_tuple bt_tuple (da_cons (dr_e (de_f (df_comp c nd (di_range1 rfl n_range de_int) (blkOk_by (N := N__law_some) (sc := defScope S__law_some) (own := [("_law_k", 4)]) (by decide +kernel)) (fun _ _ _ _ _ => (dg_name (i := 4) nd rfl (by first | exact Or.inl rfl | exact Or.inr rfl))) (fun _ _ _ _ _ => (dts_one (dt_cmp (op_ne2 c.blk) o_ne (dr_e (de_cmp (op_in c.blk) o_in (dr_var (pv 4)) (dr_var (pv 1)) (by with_unfolding_all rfl))) (dr_e (de_cmp (op_eq2 c.blk) o_eq (dr_var (pv 4)) (dr_var (pv 3)) (by with_unfolding_all rfl))) (by with_unfolding_all rfl)))) (fun _ _ _ _ _ => (de_var (pv 4)))))) da_nil)))) dss_nil) (dss_cons (ds_if (dt_cmp (op_eq2 c) o_eq (dr_var (pv 2)) (dr_e de_int) (by with_unfolding_all rfl)) (dss_one (ds_ret (de_callT call_tuple_of f_tuple rfl n_tuple bt_tuple (da_cons (dr_e (de_f (df_comp c nd (di_range1 rfl n_range de_int) (blkOk_by (N := N__law_some) (sc := defScope S__law_some) (own := [("_law_k", 4)]) (by decide +kernel)) (fun _ _ _ _ _ => (dg_name (i := 4) nd rfl (by first | exact Or.inl rfl | exact Or.inr rfl))) (fun _ _ _ _ _ => (dts_one (dt_w (dw_or (dt_w (dw_and (dt_cmp (op_in c.blk) o_in (dr_var (pv 4)) (dr_var (pv 1)) (by with_unfolding_all rfl)) (dw_and1 (dt_cmp (op_lt2 c.blk) o_lt2 (dr_var (pv 4)) (dr_var (pv 3)) (by with_unfolding_all rfl))))) (dw_or1 (dt_w (dw_and (dt_cmp (op_gt2 c.blk) o_gt2 (dr_var (pv 4)) (dr_var (pv 3)) (by with_unfolding_all rfl)) (dw_and1 (dt_cmp (op_eq2 c.blk) o_eq (dr_e (de_callH h__law_pick hr rfl takes0 (da_cons (dr_var (pv 0)) (da_cons (dr_e de_int) da_nil)))) (dr_e de_int) (by with_unfolding_all rfl)))))))))) (fun _ _ _ _ _ => (de_var (pv 4)))))) da_nil)))) dss_nil) (dss_one (ds_ret (de_ix c (dr_e (de_f (df_lst (dl_cons (de_var (pv 1)) (dl_cons (de_tup dl_nil) (dl_cons (de_tupRg c rfl n_tuple (drg1 rfl n_range de_int)) (dl_cons (de_tup (dl_cons (de_var (pv 3)) dl_nil)) dl_nil))))))) (dr_e (de_callH h__law_pick hr rfl tk (da_cons (dr_var (pv 0)) (da_cons (dr_e de_int) da_nil))))))))))))
theorem has__law_some {P : Program} {w : World} {K : PySem.W.Frag} {mg : Str → Option Value} {base : Heap} {f : Addr} {fd : FuncData} (D : FnP K "_law_some" S__law_some f fd) (g : mg "_law_some" = some (.ref f)) (h__law_pick : Has P w K mg base 1 "_law_pick" [true, false] F__law_pick) (n_range : mg "range" = none) (n_tuple : mg "tuple" = none) : Has P w K mg base 2 "_law_some" [true, false] F__law_some :=
  has_of D (fn__law_some D h__law_pick n_range n_tuple) g (fun _ _ _ _ _ _ us hl => match us, hl with | [_, _], _ => rfl)
/-! _law_told -/
abbrev S__law_told : Stmt := top 9
abbrev N__law_told : List Str := ["_law_one", "_law_other", "_law_found"]
theorem sc__law_told : FnScope N__law_told ["_law_one", "_law_other"] (defScope S__law_told) := ⟨rfl, rfl, rfl, by decide +kernel, rfl, by decide +kernel, by decide +kernel⟩
def m__law_told : SM := (sSeq (sSet 2 (eCall [false, false] false F_breaks_less (aCons (rVar 0) (aCons (rVar 1) aNil)))) (sSeq (sIf (tNotM (tOfE (eIsT .bool (rVar 2)))) (sRet (eC .non)) sNil) (sRet (eVar 2))))
def F__law_told : List D → FRes := runF [false, false] 3 m__law_told
theorem fn__law_told {P : Program} {w : World} {K : PySem.W.Frag} {mg : Str → Option Value} {base : Heap} {f : Addr} {fd : FuncData} (D : FnP K "_law_told" S__law_told f fd) (h_breaks_less : Has P w K mg base 2 "breaks_less" [false, false] F_breaks_less) (n_isinstance : mg "isinstance" = none) (n_bool : mg "bool" = none) : FnOk P w K mg base (L2.CX P w) 3 f fd ["_law_one", "_law_other"] (spF K mg [false, false] F__law_told) := by
  refine fn_defD (k := 2) D sc__law_told rfl fun cdv A outer s H E hr => ?_
  have c := cd_of (X := cxOf (L2.CX P w) P w K mg base N__law_told "_law_told" (defScope S__law_told) f cdv A outer s H E) hr
  have tk := takes_of (X := cxOf (L2.CX P w) P w K mg base N__law_told "_law_told" (defScope S__law_told) f cdv A outer s H E) (E := E) rfl rfl rfl rfl
  have nd := sc__law_told.nd
  exact (dss_cons (ds_set (i := 2) nd rfl (by first | exact Or.inl rfl | exact Or.inr rfl) (de_callH h_breaks_less hr rfl tk (da_cons (dr_var (pv 0)) (da_cons (dr_var (pv 1)) da_nil)))) (dss_cons (ds_if (dt_not (dt_e (de_isT .bool (dr_var (pv 2)) rfl n_isinstance rfl n_bool bt_bool))) (dss_one (ds_ret de_non)) dss_nil) (dss_one (ds_ret (de_var (pv 2))))))
theorem has__law_told {P : Program} {w : World} {K : PySem.W.Frag} {mg : Str → Option Value} {base : Heap} {f : Addr} {fd : FuncData} (D : FnP K "_law_told" S__law_told f fd) (g : mg "_law_told" = some (.ref f)) (h_breaks_less : Has P w K mg base 2 "breaks_less" [false, false] F_breaks_less) (n_isinstance : mg "isinstance" = none) (n_bool : mg "bool" = none) : Has P w K mg base 3 "_law_told" [false, false] F__law_told :=
  has_of D (fn__law_told D h_breaks_less n_isinstance n_bool) g (fun _ _ _ _ _ _ us hl => match us, hl with | [_, _], _ => rfl)
/-! _law_two -/
abbrev S__law_two : Stmt := top 10
abbrev N__law_two : List Str := ["_law_one", "_law_other", "_law_truths", "_law_due", "_law_some_here", "_law_k"]
theorem sc__law_two : FnScope N__law_two ["_law_one", "_law_other"] (defScope S__law_two) := ⟨rfl, rfl, rfl, by decide +kernel, rfl, by decide +kernel, by decide +kernel⟩
def m__law_two : SM := (sSeq (sSet 2 (eComp (iVal (eTup (lCons (eVar 0) (lCons (eVar 1) lNil)))) (gNm 4) tYesM (eComp (iRange1 (eC (.int 12))) (gNm 5) tYesM (eOp2 inD (rVar 5) (rVar 4)) [5]) [4])) (sSeq (sSet 3 (eCall [false, false] false F__law_less (aCons (rVar 0) (aCons (rVar 1) aNil)))) (sSeq (sIf (tOrM (tOfE (eOp2 neO (rOf (eCall [false, false] false F__law_told (aCons (rVar 0) (aCons (rVar 1) aNil)))) (rVar 3))) (tOfE (eOp2 neO (rVar 3) (rOf (eOp2 lt2 (rOf (eOp2 ixD (rVar 2) (rOf (eC (.int 0))))) (rOf (eOp2 ixD (rVar 2) (rOf (eC (.int 1)))))))))) (sRet (eC (.bl false))) sNil) (sSeq (sIf (tOfE (eOp2 eqO (rVar 0) (rVar 1))) (sRet (eOp2 isD (rOf (eCall [false, false] false F__law_told (aCons (rVar 1) (aCons (rVar 0) aNil)))) (rOf (eC (.bl false))))) sNil) (sRet (eAnd (eOp2 inD (rOf (eCall [false, false] false F__law_told (aCons (rVar 1) (aCons (rVar 0) aNil)))) (rOf (eTup (lCons (eC (.bl true)) (lCons (eC (.bl false)) lNil))))) (eOp2 neO (rOf (eCall [false, false] false F__law_told (aCons (rVar 1) (aCons (rVar 0) aNil)))) (rVar 3))))))))
def F__law_two : List D → FRes := runF [false, false] 6 m__law_two
theorem fn__law_two {P : Program} {w : World} {K : PySem.W.Frag} {mg : Str → Option Value} {base : Heap} {f : Addr} {fd : FuncData} (D : FnP K "_law_two" S__law_two f fd) (h__law_less : Has P w K mg base 1 "_law_less" [false, false] F__law_less) (h__law_told : Has P w K mg base 3 "_law_told" [false, false] F__law_told) (n_range : mg "range" = none) : FnOk P w K mg base (L2.CX P w) 4 f fd ["_law_one", "_law_other"] (spF K mg [false, false] F__law_two) := by
  refine fn_defD (k := 3) D sc__law_two rfl fun cdv A outer s H E hr => ?_
  have c := cd_of (X := cxOf (L2.CX P w) P w K mg base N__law_two "_law_two" (defScope S__law_two) f cdv A outer s H E) hr
  have tk := takes_of (X := cxOf (L2.CX P w) P w K mg base N__law_two "_law_two" (defScope S__law_two) f cdv A outer s H E) (E := E) rfl rfl rfl rfl
  have nd := sc__law_two.nd
  exact (dss_cons (ds_setLc (i := 2) c nd rfl rfl (sw_true rfl rfl rfl (by decide +kernel)) (di_val (de_tup (dl_cons (de_var (pv 0)) (dl_cons (de_var (pv 1)) dl_nil)))) (blkOk_by (N := N__law_two) (sc := defScope S__law_two) (own := [("_law_some_here", 4)]) (by decide +kernel)) (fun _ _ _ _ _ => (dg_name (i := 4) nd rfl (by first | exact Or.inl rfl | exact Or.inr rfl))) (fun _ _ _ _ _ => dts_nil) (fun _ _ _ _ _ => (de_f (df_comp c.blk nd (di_range1 rfl n_range de_int) (blkOk_by (own := [("_law_k", 5)]) (by rfl)) (fun _ _ _ _ _ => (dg_name (i := 5) nd rfl (by first | exact Or.inl rfl | exact Or.inr rfl))) (fun _ _ _ _ _ => dts_nil) (fun _ _ _ _ _ => (de_cmp (op_in c.blk.blk) o_in (dr_var (pv 5)) (dr_var (pv 4)) (by with_unfolding_all rfl))))))) (dss_cons (ds_set (i := 3) nd rfl (by first | exact Or.inl rfl | exact Or.inr rfl) (de_callH h__law_less hr rfl tk (da_cons (dr_var (pv 0)) (da_cons (dr_var (pv 1)) da_nil)))) (dss_cons (ds_if (dt_w (dw_or (dt_cmp (op_ne2 c) o_ne (dr_e (de_callH h__law_told hr rfl tk (da_cons (dr_var (pv 0)) (da_cons (dr_var (pv 1)) da_nil)))) (dr_var (pv 3)) (by with_unfolding_all rfl)) (dw_or1 (dt_cmp (op_ne2 c) o_ne (dr_var (pv 3)) (dr_e (de_cmp (op_lt2 c) o_lt2 (dr_e (de_ix c (dr_var (pv 2)) (dr_e de_int))) (dr_e (de_ix c (dr_var (pv 2)) (dr_e de_int))) (by with_unfolding_all rfl))) (by with_unfolding_all rfl))))) (dss_one (ds_ret de_bl)) dss_nil) (dss_cons (ds_if (dt_cmp (op_eq2 c) o_eq (dr_var (pv 0)) (dr_var (pv 1)) (by with_unfolding_all rfl)) (dss_one (ds_ret (de_cmp op_isC o_is (dr_e (de_callH h__law_told hr rfl tk (da_cons (dr_var (pv 1)) (da_cons (dr_var (pv 0)) da_nil)))) (dr_e de_bl) (by with_unfolding_all rfl)))) dss_nil) (dss_one (ds_ret (de_and (de_cmp (op_in c) o_in (dr_e (de_callH h__law_told hr rfl tk (da_cons (dr_var (pv 1)) (da_cons (dr_var (pv 0)) da_nil)))) (dr_e (de_tup (dl_cons de_bl (dl_cons de_bl dl_nil)))) (by with_unfolding_all rfl)) (de_one (de_cmp (op_ne2 c) o_ne (dr_e (de_callH h__law_told hr rfl tk (da_cons (dr_var (pv 1)) (da_cons (dr_var (pv 0)) da_nil)))) (dr_var (pv 3)) (by with_unfolding_all rfl))))))))))
theorem has__law_two {P : Program} {w : World} {K : PySem.W.Frag} {mg : Str → Option Value} {base : Heap} {f : Addr} {fd : FuncData} (D : FnP K "_law_two" S__law_two f fd) (g : mg "_law_two" = some (.ref f)) (h__law_less : Has P w K mg base 1 "_law_less" [false, false] F__law_less) (h__law_told : Has P w K mg base 3 "_law_told" [false, false] F__law_told) (n_range : mg "range" = none) : Has P w K mg base 4 "_law_two" [false, false] F__law_two :=
  has_of D (fn__law_two D h__law_less h__law_told n_range) g (fun _ _ _ _ _ _ us hl => match us, hl with | [_, _], _ => rfl)
/-! law -/
abbrev S_law : Stmt := top 11
abbrev N_law : List Str := ["_law_script", "_law_k", "_law_purse_here", "_law_one", "_law_other", "_law_third"]
theorem sc_law : FnScope N_law ["_law_script"] (defScope S_law) := ⟨rfl, rfl, rfl, by decide +kernel, rfl, by decide +kernel, by decide +kernel⟩
def m_law : SM := (sSeq (sIf (tOrM (tOfE (eOp2 isntD (rOf (eCall [false, false] false F__law_told (aCons (rOf (eTup lNil)) (aCons (rOf (eTup lNil)) aNil)))) (rOf (eC (.bl false))))) (tOrM (tOfE (eOp2 isntD (rOf (eCall [false, false] false F__law_told (aCons (rOf (eTup lNil)) (aCons (rOf (eTup (lCons (eC (.int 11)) lNil))) aNil)))) (rOf (eC (.bl true))))) (tOfE (eOp2 isntD (rOf (eCall [false, false] false F__law_told (aCons (rOf (eTup (lCons (eC (.int 11)) lNil))) (aCons (rOf (eTup (lCons (eC (.int 0)) lNil))) aNil)))) (rOf (eC (.bl true))))))) (sRet (eC (.bl false))) sNil) (sSeq (sFor (iRange1 (eCallB max2D (aCons (rOf (eC (.int 2))) (aCons (rOf (eCallB min2D (aCons (rOf (eCallB lenD (aCons (rVar 0) aNil))) (aCons (rOf (eC (.int 12))) aNil)))) aNil)))) (gNm 1) (sSeq (sSetO 2 (eCall [false] true F__law_purse (aCons (rOf (eCall [false, false] false F__law_cell (aCons (rVar 0) (aCons (rVar 1) aNil)))) aNil))) (sSeq (sSet 3 (eCall [true, false] false F__law_some (aCons (rVar 2) (aCons (rOf (eC .non)) aNil)))) (sSeq (sSet 4 (eCall [true, false] false F__law_some (aCons (rVar 2) (aCons (rVar 3) aNil)))) (sSeq (sSet 5 (eCall [true, false] false F__law_some (aCons (rVar 2) (aCons (rVar 4) aNil)))) (sSeq (sIf (tOrM (tNotM (tOfE (eCall [false, false] false F__law_two (aCons (rVar 3) (aCons (rVar 4) aNil))))) (tOrM (tNotM (tOfE (eCall [false, false] false F__law_two (aCons (rVar 4) (aCons (rVar 5) aNil))))) (tNotM (tOfE (eCall [false, false] false F__law_two (aCons (rVar 3) (aCons (rVar 5) aNil))))))) (sRet (eC (.bl false))) sNil) (sSeq (sIf (tAndM (tOfE (eCall [false, false] false F__law_told (aCons (rVar 3) (aCons (rVar 4) aNil)))) (tAndM (tOfE (eCall [false, false] false F__law_told (aCons (rVar 4) (aCons (rVar 5) aNil)))) (tNotM (tOfE (eCall [false, false] false F__law_told (aCons (rVar 3) (aCons (rVar 5) aNil))))))) (sRet (eC (.bl false))) sNil) (sIf (tOrM (tOfE (eOp2 eqO (rOf (eCall [false, false] false F__law_told (aCons (rOf (eTup lNil)) (aCons (rVar 3) aNil)))) (rOf (eOp2 eqO (rVar 3) (rOf (eTup lNil)))))) (tOfE (eOp2 eqO (rOf (eCall [false, false] false F__law_told (aCons (rVar 3) (aCons (rOf (eTupRg (gRg1 (eC (.int 12))))) aNil)))) (rOf (eOp2 eqO (rOf (eCallB lenD (aCons (rVar 3) aNil))) (rOf (eC (.int 12)))))))) (sRet (eC (.bl false))) sNil)))))))) (sRet (eC (.bl true)))))
def F_law : List D → FRes := runF [false] 6 m_law
theorem fn_law {P : Program} {w : World} {K : PySem.W.Frag} {mg : Str → Option Value} {base : Heap} {f : Addr} {fd : FuncData} (D : FnP K "law" S_law f fd) (h__law_told : Has P w K mg base 3 "_law_told" [false, false] F__law_told) (h__law_cell : Has P w K mg base 1 "_law_cell" [false, false] F__law_cell) (h__law_purse : Has P w K mg base 1 "_law_purse" [false] F__law_purse) (h__law_some : Has P w K mg base 2 "_law_some" [true, false] F__law_some) (h__law_two : Has P w K mg base 4 "_law_two" [false, false] F__law_two) (n_range : mg "range" = none) (n_len : mg "len" = none) (n_min : mg "min" = none) (n_max : mg "max" = none) (n_tuple : mg "tuple" = none) : FnOk P w K mg base (L2.CX P w) 5 f fd ["_law_script"] (spF K mg [false] F_law) := by
  refine fn_defD (k := 4) D sc_law rfl fun cdv A outer s H E hr => ?_
  have c := cd_of (X := cxOf (L2.CX P w) P w K mg base N_law "law" (defScope S_law) f cdv A outer s H E) hr
  have tk := takes_of (X := cxOf (L2.CX P w) P w K mg base N_law "law" (defScope S_law) f cdv A outer s H E) (E := E) rfl rfl rfl rfl
  have nd := sc_law.nd
  exact (dss_cons (ds_if (dt_w (dw_or (dt_cmp op_isntC o_isnt (dr_e (de_callH h__law_told hr rfl tk (da_cons (dr_e (de_tup dl_nil)) (da_cons (dr_e (de_tup dl_nil)) da_nil)))) (dr_e de_bl) (by with_unfolding_all rfl)) (dw_or (dt_cmp op_isntC o_isnt (dr_e (de_callH h__law_told hr rfl tk (da_cons (dr_e (de_tup dl_nil)) (da_cons (dr_e (de_tup (dl_cons de_int dl_nil))) da_nil)))) (dr_e de_bl) (by with_unfolding_all rfl)) (dw_or1 (dt_cmp op_isntC o_isnt (dr_e (de_callH h__law_told hr rfl tk (da_cons (dr_e (de_tup (dl_cons de_int dl_nil))) (da_cons (dr_e (de_tup (dl_cons de_int dl_nil))) da_nil)))) (dr_e de_bl) (by with_unfolding_all rfl)))))) (dss_one (ds_ret de_bl)) dss_nil) (dss_cons (ds_for c (passes_of rfl) (di_range1 rfl n_range (de_callB (call_max2 c.calm) f_max2 rfl n_max bt_max (da_cons (dr_e de_int) (da_cons (dr_e (de_callB (call_min2 c.calm) f_min2 rfl n_min bt_min (da_cons (dr_e (de_callB call_len f_len rfl n_len bt_len (da_cons (dr_var (pv 0)) da_nil))) (da_cons (dr_e de_int) da_nil)))) da_nil)))) (dg_name (i := 1) nd rfl (by first | exact Or.inl rfl | exact Or.inr rfl)) (dss_cons (ds_setO (i := 2) nd rfl (by first | exact Or.inl rfl | exact Or.inr rfl) (df_callH h__law_purse hr rfl tk (da_cons (dr_e (de_callH h__law_cell hr rfl tk (da_cons (dr_var (pv 0)) (da_cons (dr_var (pv 1)) da_nil)))) da_nil))) (dss_cons (ds_set (i := 3) nd rfl (by first | exact Or.inl rfl | exact Or.inr rfl) (de_callH h__law_some hr rfl tk (da_cons (dr_var (pv 2)) (da_cons (dr_e de_non) da_nil)))) (dss_cons (ds_set (i := 4) nd rfl (by first | exact Or.inl rfl | exact Or.inr rfl) (de_callH h__law_some hr rfl tk (da_cons (dr_var (pv 2)) (da_cons (dr_var (pv 3)) da_nil)))) (dss_cons (ds_set (i := 5) nd rfl (by first | exact Or.inl rfl | exact Or.inr rfl) (de_callH h__law_some hr rfl tk (da_cons (dr_var (pv 2)) (da_cons (dr_var (pv 4)) da_nil)))) (dss_cons (ds_if (dt_w (dw_or (dt_not (dt_e (de_callH h__law_two hr rfl tk (da_cons (dr_var (pv 3)) (da_cons (dr_var (pv 4)) da_nil))))) (dw_or (dt_not (dt_e (de_callH h__law_two hr rfl tk (da_cons (dr_var (pv 4)) (da_cons (dr_var (pv 5)) da_nil))))) (dw_or1 (dt_not (dt_e (de_callH h__law_two hr rfl tk (da_cons (dr_var (pv 3)) (da_cons (dr_var (pv 5)) da_nil))))))))) (dss_one (ds_ret de_bl)) dss_nil) (dss_cons (ds_if (dt_w (dw_and (dt_e (de_callH h__law_told hr rfl tk (da_cons (dr_var (pv 3)) (da_cons (dr_var (pv 4)) da_nil)))) (dw_and (dt_e (de_callH h__law_told hr rfl tk (da_cons (dr_var (pv 4)) (da_cons (dr_var (pv 5)) da_nil)))) (dw_and1 (dt_not (dt_e (de_callH h__law_told hr rfl tk (da_cons (dr_var (pv 3)) (da_cons (dr_var (pv 5)) da_nil))))))))) (dss_one (ds_ret de_bl)) dss_nil) (dss_one (ds_if (dt_w (dw_or (dt_cmp (op_eq2 c) o_eq (dr_e (de_callH h__law_told hr rfl tk (da_cons (dr_e (de_tup dl_nil)) (da_cons (dr_var (pv 3)) da_nil)))) (dr_e (de_cmp (op_eq2 c) o_eq (dr_var (pv 3)) (dr_e (de_tup dl_nil)) (by with_unfolding_all rfl))) (by with_unfolding_all rfl)) (dw_or1 (dt_cmp (op_eq2 c) o_eq (dr_e (de_callH h__law_told hr rfl tk (da_cons (dr_var (pv 3)) (da_cons (dr_e (de_tupRg c rfl n_tuple (drg1 rfl n_range de_int))) da_nil)))) (dr_e (de_cmp (op_eq2 c) o_eq (dr_e (de_callB call_len f_len rfl n_len bt_len (da_cons (dr_var (pv 3)) da_nil))) (dr_e de_int) (by with_unfolding_all rfl))) (by with_unfolding_all rfl))))) (dss_one (ds_ret de_bl)) dss_nil))))))))) (dss_one (ds_ret de_bl))))
theorem has_law {P : Program} {w : World} {K : PySem.W.Frag} {mg : Str → Option Value} {base : Heap} {f : Addr} {fd : FuncData} (D : FnP K "law" S_law f fd) (g : mg "law" = some (.ref f)) (h__law_told : Has P w K mg base 3 "_law_told" [false, false] F__law_told) (h__law_cell : Has P w K mg base 1 "_law_cell" [false, false] F__law_cell) (h__law_purse : Has P w K mg base 1 "_law_purse" [false] F__law_purse) (h__law_some : Has P w K mg base 2 "_law_some" [true, false] F__law_some) (h__law_two : Has P w K mg base 4 "_law_two" [false, false] F__law_two) (n_range : mg "range" = none) (n_len : mg "len" = none) (n_min : mg "min" = none) (n_max : mg "max" = none) (n_tuple : mg "tuple" = none) : Has P w K mg base 5 "law" [false] F_law :=
  has_of D (fn_law D h__law_told h__law_cell h__law_purse h__law_some h__law_two n_range n_len n_min n_max n_tuple) g (fun _ _ _ _ _ _ us hl => match us, hl with | [_], _ => rfl)
end NV

set_option Elab.async false
set_option linter.all false
set_option maxRecDepth 100000
set_option maxHeartbeats 4000000
namespace NV
open PySem PySem.Spec PyProof.Rows L2
def purse (a b c : Int) : D := .lst [.int a, .int b, .int c]
def nextA (a c : Int) : Int := a % 999999937 * (a % 999999937 % 30013 + 20011) + 70001 * (c + 1)
theorem pick_eq (a b c n : Int) (h0 : 0 < n) (h1 : n < 1073741824) : F__law_pick [purse a b c, .int n] =
    if 0 < b then .ok (.int (b % n)) [purse (nextA a c) (b / n) (c + 1)] else .ok (.int (nextA a c % 999999937 / 8 % n)) [purse (nextA a c) b (c + 1)] := by
  have hs : 0 ≤ a % 999999937 ∧ a % 999999937 < 999999937 := ⟨Int.emod_nonneg _ (by decide), Int.emod_lt_of_pos _ (by decide)⟩
  have m1 : mulD (.int (a % 999999937)) (.int (a % 999999937 % 30013 + 20011)) = some (.int (a % 999999937 * (a % 999999937 % 30013 + 20011))) := mulD_int (.inl (by omega))
  have m2 : ∀ c : Int, mulD (.int 70001) (.int c) = some (.int (70001 * c)) := fun c => mulD_int (.inl (by decide))
  have m3 : ∀ a : Int, modD (.int a) (.int 999999937) = some (.int (a % 999999937)) := fun a => modD_int (by decide)
  have m4 : ∀ a : Int, modD (.int a) (.int 30013) = some (.int (a % 30013)) := fun a => modD_int (by decide)
  have m5 : ∀ a : Int, modD (.int a) (.int n) = some (.int (a % n)) := fun a => modD_int h0
  have m6 : ∀ a : Int, fdivD (.int a) (.int n) = some (.int (a / n)) := fun a => fdivD_int h0 h1
  have m7 : ∀ a : Int, fdivD (.int a) (.int 8) = some (.int (a / 8)) := fun a => fdivD_int (by decide) (by decide)
  by_cases hb : 0 < b
  · simp [F__law_pick, m__law_pick, purse, nextA, sSetIx, ixD, L2.atI, ixN, ownSet, m1, m2, m3, m4, m5, m6, m7, hb]
  · simp [F__law_pick, m__law_pick, purse, nextA, sSetIx, ixD, L2.atI, ixN, ownSet, m1, m2, m3, m4, m5, m6, m7, hb]
theorem pick_ok (a b c n : Int) (h0 : 0 < n) (h1 : n < 1073741824) : ∃ a' b' c' r, F__law_pick [purse a b c, .int n] = .ok (.int r) [purse a' b' c'] ∧ 0 ≤ r ∧ r < n := by
  rw [pick_eq a b c n h0 h1]
  split
  · exact ⟨_, _, _, _, rfl, Int.emod_nonneg _ (by omega), Int.emod_lt_of_pos _ h0⟩
  · exact ⟨_, _, _, _, rfl, Int.emod_nonneg _ (by omega), Int.emod_lt_of_pos _ h0⟩
end NV

set_option Elab.async false
set_option linter.all false
set_option maxRecDepth 100000
set_option maxHeartbeats 4000000
namespace NV
open PySem PySem.Spec PyProof.Rows L2
/-! ### the order -/
/-- the first place where p and q differ: q holds there -/
def lx (L : List Int) (p q : Int → Bool) : Bool := match L with
  | [] => false
  | k :: L => if p k = q k then lx L p q else q k
theorem lx_first : ∀ (L : List Int) (p q : Int → Bool), lx L p q = (match L.filter fun k => p k != q k with
    | [] => false
    | k :: _ => q k)
  | [], _, _ => rfl
  | k :: L, p, q => by
    unfold lx
    by_cases h : p k = q k
    · rw [if_pos h, lx_first L p q, List.filter_cons_of_neg (by simp [h])]
    · rw [if_neg h, List.filter_cons_of_pos (by simp [h])]
theorem lx_irr : ∀ (L : List Int) (p : Int → Bool), lx L p p = false
  | [], _ => rfl
  | k :: L, p => by unfold lx; rw [if_pos rfl, lx_irr L p]
theorem lx_congr : ∀ (L : List Int) {p q p' q' : Int → Bool}, (∀ k ∈ L, p k = p' k ∧ q k = q' k) → lx L p q = lx L p' q'
  | [], _, _, _, _, _ => rfl
  | k :: L, p, q, p', q', h => by
    unfold lx
    obtain ⟨h1, h2⟩ := h k List.mem_cons_self
    rw [h1, h2, lx_congr L fun k hk => h k (List.mem_cons_of_mem _ hk)]
theorem lx_tot : ∀ (L : List Int) (p q : Int → Bool), (∃ k ∈ L, p k ≠ q k) → lx L q p = !lx L p q
  | [], _, _, h => by obtain ⟨_, h, _⟩ := h; cases h
  | k :: L, p, q, h => by
    unfold lx
    by_cases e : p k = q k
    · rw [if_pos e, if_pos e.symm]
      refine lx_tot L p q ?_
      obtain ⟨j, hj, hn⟩ := h
      rcases List.mem_cons.mp hj with z | z
      · subst z; exact absurd e hn
      · exact ⟨j, z, hn⟩
    · rw [if_neg e, if_neg (fun z => e z.symm)]
      cases hp : p k <;> cases hq : q k <;> simp_all
theorem lx_trans : ∀ (L : List Int) (p q r : Int → Bool), lx L p q = true → lx L q r = true → lx L p r = true
  | [], _, _, _, h, _ => by cases h
  | k :: L, p, q, r, h1, h2 => by
    unfold lx at h1 h2 ⊢
    have ih := lx_trans L p q r
    cases hp : p k <;> cases hq : q k <;> cases hr : r k <;> simp_all
theorem lx_bot : ∀ (L : List Int) (q : Int → Bool), lx L (fun _ => false) q = !decide (L.filter q = [])
  | [], _ => rfl
  | k :: L, q => by
    unfold lx
    cases hq : q k with
    | false => rw [if_pos rfl, lx_bot L q, List.filter_cons_of_neg (by simp [hq])]
    | true => rw [if_neg (by simp), List.filter_cons_of_pos hq]; simp
theorem lx_top : ∀ (L : List Int) (p : Int → Bool), lx L p (fun _ => true) = !decide ((L.filter p).length = L.length)
  | [], _ => by simp [lx]
  | k :: L, p => by
    unfold lx
    cases hp : p k with
    | true => rw [if_pos rfl, lx_top L p, List.filter_cons_of_pos hp]; simp
    | false =>
      rw [if_neg (by simp), List.filter_cons_of_neg (by simp [hp])]
      have := List.length_filter_le p L
      have : ¬ (L.filter p).length = L.length + 1 := by omega
      simp [this]
/-- rows of truths, as Python orders them -/
theorem lx_data : ∀ (L : List Int) (p q : Int → Bool), PyProof.Rows.lexLt itemOrd (PySem.W.keyToksAll (L.map fun k => PyData.bool (p k))) (PySem.W.keyToksAll (L.map fun k => PyData.bool (q k))) = lx L p q
  | [], _, _ => by
    show PyProof.Rows.lexLt itemOrd [.inl 0] [.inl 0] = false
    rw [PyProof.Rows.lex_self]
    rfl
  | k :: L, p, q => by
    have al : PySem.W.alike (.bool (p k)) (.bool (q k)) = true := by simp [PySem.W.alike]
    rw [List.map_cons, List.map_cons]
    unfold lx
    by_cases h : p k = q k
    · rw [if_pos h, PySem.W.dataLt_all_yes al (by rw [h]; cases q k <;> rfl), lx_data L p q]
    · rw [if_neg h, PySem.W.dataLt_all_no al (by cases hp : p k <;> cases hq : q k <;> first | (exact absurd (hp.trans hq.symm) h) | rfl), PySem.W.dataLt_bool]
      cases hp : p k <;> cases hq : q k <;> first | (exact absurd (hp.trans hq.symm) h) | rfl
def mem (l : List Int) : Int → Bool := fun k => decide (k ∈ l)
/-- the least of those that just one has -/
theorem lx_min (L l m alone : List Int) (hs : L.Pairwise (· < ·)) (ha : ∀ k, k ∈ alone ↔ k ∈ L ∧ (mem l k != mem m k) = true) : lx L (mem l) (mem m) = (!decide (alone = []) && mem m (minL alone)) := by
  rw [lx_first]
  cases e : L.filter fun k => mem l k != mem m k with
  | nil =>
    have : alone = [] := by
      cases alone with
      | nil => rfl
      | cons a r =>
        have := (ha a).mp List.mem_cons_self
        have : a ∈ L.filter fun k => mem l k != mem m k := List.mem_filter.mpr ⟨this.1, this.2⟩
        rw [e] at this
        cases this
    simp [this]
  | cons k r =>
    have hk : k ∈ L.filter fun k => mem l k != mem m k := by rw [e]; exact List.mem_cons_self
    have hka : k ∈ alone := (ha k).mpr (List.mem_filter.mp hk)
    have hne : alone ≠ [] := fun z => by rw [z] at hka; cases hka
    have hso : (k :: r).Pairwise (· < ·) := by rw [← e]; exact hs.sublist List.filter_sublist
    have hle : ∀ y ∈ alone, k ≤ y := fun y hy => by
      have : y ∈ L.filter fun k => mem l k != mem m k := List.mem_filter.mpr ((ha y).mp hy)
      rw [e] at this
      rcases List.mem_cons.mp this with z | z
      · omega
      · have := (List.pairwise_cons.mp hso).1 y z; omega
    have : minL alone = k := Int.le_antisymm (minL_le hka) (hle _ (minL_mem hne))
    simp [this, hne]
end NV

set_option Elab.async false
set_option linter.all false
set_option maxRecDepth 100000
set_option maxHeartbeats 4000000
namespace NV
open PySem PySem.Spec PyProof.Rows L2
def R12 : List Int := [0, 1, 2, 3, 4, 5, 6, 7, 8, 9, 10, 11]
theorem rng12 : rng1 (.int 12) = some (R12.map D.int) := by
  show (if (12 : Int) ≤ 16777216 ∧ -(2 ^ 62 : Int) ≤ 12 then some (rngD 0 (12 : Int).toNat) else none) = _
  rw [if_pos ⟨by decide, by decide⟩]
  rfl
theorem R12_lt : R12.Pairwise (· < ·) := by decide
theorem comp1 {mt : TM} {me : EM} {i : Nat} (e : Slot → Env) (hset : ∀ x y, (e x).set i y = e y) (l : List Int) (p : Int → Bool) (f : Int → D) (ht : ∀ k ∈ l, mt (e (.v (.int k))) = .ok (p k) (e (.v (.int k)))) (he : ∀ k ∈ l, me (e (.v (.int k))) = .ok (f k) (e (.v (.int k)))) (x : Slot) :
    ∃ y, compL (gNm i) mt me [i] (l.map D.int) [] (e x) = .ok ((l.filter p).map f) (e y) := by
  obtain ⟨y, h⟩ := comp_pure e hset (fun d => p (toI d)) (fun d => f (toI d)) (l.map D.int) (fun d hd => by obtain ⟨k, hk, rfl⟩ := List.mem_map.mp hd; exact ht k hk) (fun d hd _ => by obtain ⟨k, hk, rfl⟩ := List.mem_map.mp hd; exact he k hk) [] x
  refine ⟨y, ?_⟩
  rw [h, filter_ints l p (fun d => p (toI d)) fun _ => rfl, List.map_map]
  rfl
def aloneOf (l m : List Int) : List Int := l.filter (fun k => !mem m k) ++ m.filter (fun k => !mem l k)
theorem less_of_eq (l m : List Int) (hl : l.length ≤ 12) (hm : m.length ≤ 12) : F_less_of [iT l, iT m] = .ok (.bl (!decide (aloneOf l m = []) && mem m (minL (aloneOf l m)))) [] := by
  obtain ⟨y1, e1⟩ := comp1 (mt := tOfE (eOp2 notInD (rVar 3) (rVar 1))) (me := eVar 3) (i := 3) (fun s => [.v (.tup (l.map D.int)), .v (.tup (m.map D.int)), .no, s]) (fun _ _ => rfl) l (fun k => !mem m k) D.int (fun k _ => by simp [mem]) (fun k _ => by simp) .no
  obtain ⟨y2, e2⟩ := comp1 (mt := tOfE (eOp2 notInD (rVar 3) (rVar 0))) (me := eVar 3) (i := 3) (fun s => [.v (.tup (l.map D.int)), .v (.tup (m.map D.int)), .no, s]) (fun _ _ => rfl) m (fun k => !mem l k) D.int (fun k _ => by simp [mem]) (fun k _ => by simp) .no
  have h1 := List.length_filter_le (fun k => !mem m k) l
  have h2 := List.length_filter_le (fun k => !mem l k) m
  have hc : catD (.lst ((l.filter fun k => !mem m k).map D.int)) (.lst ((m.filter fun k => !mem l k).map D.int)) = some (.lst ((aloneOf l m).map D.int)) := by
    show (if _ ≤ sizeLine then _ else none) = _
    rw [if_pos (by rw [List.length_map, List.length_map, sizeLine_eq]; omega), ← List.map_append]
    rfl
  have hi : ∀ k, inD (.int k) (.tup (m.map D.int)) = some (.bl (mem m k)) := fun k => in_ints k m
  simp [F_less_of, m_less_of, iT, e1, e2, hc, backE, wipeE, keepV]
  by_cases h : aloneOf l m = []
  · simp [h]
  · have hmin : minD [.lst ((aloneOf l m).map D.int)] = some (.int (minL (aloneOf l m))) := by
      show (intsOf ((aloneOf l m).map D.int)).bind _ = _
      rw [intsOf_map]
      cases e : aloneOf l m with
      | nil => exact absurd e h
      | cons a r => rfl
    simp [h, hmin, hi, mem]
theorem breaks_eq (l m : List Int) (hl : l.length ≤ 12) (hm : m.length ≤ 12) : F_breaks_less [iT l, iT m] = .ok (.bl (!decide (aloneOf l m = []) && mem m (minL (aloneOf l m)))) [] := by
  have h := call_val (fl := [false, false]) (F := F_less_of) (rs := [.val (iT l), .val (iT m)]) (ρ := [.v (iT l), .v (iT m)]) rfl rfl (less_of_eq l m hl hm) (.inl rfl)
  simp [F_breaks_less, m_breaks_less, h]
theorem told_eq (l m : List Int) (hl : l.length ≤ 12) (hm : m.length ≤ 12) : F__law_told [iT l, iT m] = .ok (.bl (!decide (aloneOf l m = []) && mem m (minL (aloneOf l m)))) [] := by
  have h := call_val (fl := [false, false]) (F := F_breaks_less) (rs := [.val (iT l), .val (iT m)]) (ρ := [.v (iT l), .v (iT m), .no]) rfl rfl (breaks_eq l m hl hm) (.inl rfl)
  simp [F__law_told, m__law_told, h, isT]
/-- the order of two parts of the twelve -/
def ls (l m : List Int) : Bool := lx R12 (mem l) (mem m)
theorem sub_len {l : List Int} (h : l.Sublist R12) : l.length ≤ 12 := h.length_le
theorem told_ls {l m : List Int} (hl : l.Sublist R12) (hm : m.Sublist R12) : F__law_told [iT l, iT m] = .ok (.bl (ls l m)) [] := by
  rw [told_eq l m (sub_len hl) (sub_len hm), ls, lx_min R12 l m (aloneOf l m) R12_lt fun k => ?_]
  unfold aloneOf
  rw [List.mem_append, List.mem_filter, List.mem_filter]
  have a : k ∈ l → k ∈ R12 := fun h => hl.subset h
  have b : k ∈ m → k ∈ R12 := fun h => hm.subset h
  unfold mem
  by_cases h1 : k ∈ l <;> by_cases h2 : k ∈ m <;> simp [h1, h2] <;> first | exact a h1 | exact b h2
theorem law_less_eq (l m : List Int) : F__law_less [iT l, iT m] = .ok (.bl (ls l m)) [] := by
  obtain ⟨y1, e1⟩ := comp1 (mt := tOfE (eOp2 neO (rOf (eOp2 inD (rVar 3) (rVar 0))) (rOf (eOp2 inD (rVar 3) (rVar 1))))) (me := eVar 3) (i := 3) (fun s => [.v (.tup (l.map D.int)), .v (.tup (m.map D.int)), .no, s]) (fun _ _ => rfl) R12 (fun k => mem l k != mem m k) D.int (fun k _ => by by_cases h1 : k ∈ l <;> by_cases h2 : k ∈ m <;> simp [mem, h1, h2]) (fun k _ => by simp) .no
  have hi : ∀ k, inD (.int k) (.tup (m.map D.int)) = some (.bl (mem m k)) := fun k => in_ints k m
  rw [ls, lx_first]
  generalize R12.filter (fun k => mem l k != mem m k) = al at e1 ⊢
  have hx : al ≠ [] → ixD (.lst (al.map D.int)) (.int 0) = some (.int (al.headD 0)) := fun h => by
    cases al with
    | nil => exact absurd rfl h
    | cons k r => simp [ixD, L2.atI, ixN]
  simp [F__law_less, m__law_less, iT, e1, rng12, backE, wipeE, keepV]
  by_cases h : al = []
  · simp [h]
  · simp [h, hx h, hi]
    cases al with
    | nil => exact absurd rfl h
    | cons k r =>
      simp [mem]
      exact decide_eq_decide.mpr Iff.rfl
end NV

set_option Elab.async false
set_option linter.all false
set_option maxRecDepth 100000
set_option maxHeartbeats 4000000
namespace NV
open PySem PySem.Spec PyProof.Rows L2
theorem sub_filter {l L : List Int} (h : l.Sublist L) (nd : L.Pairwise (· < ·)) : l = L.filter (mem l) := by
  induction h with
  | slnil => rfl
  | @cons l' L' a h ih =>
    obtain ⟨h1, h2⟩ := List.pairwise_cons.mp nd
    have : mem l' a = false := by
      unfold mem
      exact decide_eq_false fun z => by have := h1 a (h.subset z); omega
    rw [List.filter_cons_of_neg (by simp [this])]
    exact ih h2
  | @cons_cons l' L' a h ih =>
    obtain ⟨h1, h2⟩ := List.pairwise_cons.mp nd
    have : mem (a :: l') a = true := by simp [mem]
    rw [List.filter_cons_of_pos this]
    have e : L'.filter (mem (a :: l')) = L'.filter (mem l') := by
      refine List.filter_congr fun k hk => ?_
      have := h1 k hk
      have n : ¬ k = a := by omega
      unfold mem
      by_cases q : k ∈ l' <;> simp [n, q]
    rw [e, ← ih h2]
theorem sub_ext {l m : List Int} (hl : l.Sublist R12) (hm : m.Sublist R12) (h : l ≠ m) : ∃ k ∈ R12, mem l k ≠ mem m k := by
  apply Classical.byContradiction
  intro n
  refine h ?_
  rw [sub_filter hl R12_lt, sub_filter hm R12_lt]
  refine List.filter_congr fun k hk => ?_
  apply Classical.byContradiction
  intro z
  exact n ⟨k, hk, z⟩
theorem ls_irr (l : List Int) : ls l l = false := lx_irr _ _
theorem ls_tot {l m : List Int} (hl : l.Sublist R12) (hm : m.Sublist R12) (h : l ≠ m) : ls m l = !ls l m := lx_tot _ _ _ (sub_ext hl hm h)
theorem ls_trans {l m n : List Int} (h1 : ls l m = true) (h2 : ls m n = true) : ls l n = true := lx_trans _ _ _ _ h1 h2
theorem ls_bot {l : List Int} (hl : l.Sublist R12) : ls [] l = !decide (l = []) := by
  have e : mem ([] : List Int) = fun _ => false := by funext k; simp [mem]
  unfold ls
  rw [e, lx_bot, ← sub_filter hl R12_lt]
theorem ls_top {l : List Int} (hl : l.Sublist R12) : ls l R12 = !decide (l.length = 12) := by
  have e : lx R12 (mem l) (mem R12) = lx R12 (mem l) (fun _ => true) := lx_congr R12 fun k hk => ⟨rfl, by simp [mem, hk]⟩
  unfold ls
  rw [e, lx_top, ← sub_filter hl R12_lt]
  rfl
/-! ### rows of truths -/
def truths (l : List Int) : List D := R12.map fun k => .bl (mem l k)
theorem lt_truths (l m : List Int) : lt2 (.lst (truths l)) (.lst (truths m)) = some (.bl (ls l m)) := by
  show ordO PySem.W.dataLt (.lst (truths l)) (.lst (truths m)) = _
  have ok : okOrd (.lst (truths l)) (.lst (truths m)) = true := rfl
  unfold ordO
  rw [if_pos ok, toPy, toPy, PySem.W.dataLt_list, toPyL_map, toPyL_map, truths, truths, List.map_map, List.map_map]
  have e : ∀ l : List Int, (toPy ∘ fun k => D.bl (mem l k)) = fun k => PyData.bool (mem l k) := fun l => by funext k; simp [toPy]
  rw [e, e, lx_data]
  rfl
theorem two_ok {l m : List Int} (hl : l.Sublist R12) (hm : m.Sublist R12) : F__law_two [iT l, iT m] = .ok (.bl true) [] := by
  have inner : ∀ (n : List Int), ∃ y, compL (gNm 5) tYesM (eOp2 inD (rVar 5) (rVar 4)) [5] (R12.map D.int) [] [.v (.tup (l.map D.int)), .v (.tup (m.map D.int)), .no, .no, .v (.tup (n.map D.int)), .no] = .ok (truths n) [.v (.tup (l.map D.int)), .v (.tup (m.map D.int)), .no, .no, .v (.tup (n.map D.int)), y] := fun n => by
    obtain ⟨y, e⟩ := comp1 (mt := tYesM) (me := eOp2 inD (rVar 5) (rVar 4)) (i := 5) (fun s => [.v (.tup (l.map D.int)), .v (.tup (m.map D.int)), .no, .no, .v (.tup (n.map D.int)), s]) (fun _ _ => rfl) R12 (fun _ => true) (fun k => .bl (mem n k)) (fun k _ => by simp) (fun k _ => by simp [mem]) .no
    refine ⟨y, ?_⟩
    rw [e]
    rfl
  obtain ⟨y1, e1⟩ := inner l
  obtain ⟨y2, e2⟩ := inner m
  have t1 := told_ls hl hm
  have t2 := told_ls hm hl
  have ll := law_less_eq l m
  have ix0 : ixD (.lst [.lst (truths l), .lst (truths m)]) (.int 0) = some (.lst (truths l)) := rfl
  have ix1 : ixD (.lst [.lst (truths l), .lst (truths m)]) (.int 1) = some (.lst (truths m)) := rfl
  have tt := lt_truths l m
  unfold iT at t1 t2 ll
  have cl := fun ρ => call_val (fl := [false, false]) (F := F__law_less) (rs := [.val (.tup (l.map D.int)), .val (.tup (m.map D.int))]) (ρ := ρ) rfl rfl ll (.inl rfl)
  have c1 := fun ρ => call_val (fl := [false, false]) (F := F__law_told) (rs := [.val (.tup (l.map D.int)), .val (.tup (m.map D.int))]) (ρ := ρ) rfl rfl t1 (.inl rfl)
  have c2 := fun ρ => call_val (fl := [false, false]) (F := F__law_told) (rs := [.val (.tup (m.map D.int)), .val (.tup (l.map D.int))]) (ρ := ρ) rfl rfl t2 (.inl rfl)
  have inB : ∀ b : Bool, inD (.bl b) (.tup [.bl true, .bl false]) = some (.bl true) := fun b => by cases b <;> rfl
  simp [F__law_two, m__law_two, iT, compL, rng12, e1, e2, backE, wipeE, keepV, cl, c1, c2, ix0, ix1, tt]
  by_cases h : l = m
  · subst h
    simp [c2, ls_irr]
  · have := ls_tot hl hm h
    simp [h, c2, inB, this]
end NV

set_option Elab.async false
set_option linter.all false
set_option maxRecDepth 100000
set_option maxHeartbeats 4000000
namespace NV
open PySem PySem.Spec PyProof.Rows L2
/-- the purse's three numbers -/
structure Pu where
  a : Int
  b : Int
  c : Int
def Pu.d (s : Pu) : D := .lst [.int s.a, .int s.b, .int s.c]
theorem pick_pu (s : Pu) (n : Int) (h0 : 0 < n) (h1 : n < 1073741824) : ∃ (s' : Pu) (r : Int), F__law_pick [s.d, .int n] = .ok (.int r) [s'.d] ∧ 0 ≤ r ∧ r < n := by
  obtain ⟨a, b, c, r, h, h2, h3⟩ := pick_ok s.a s.b s.c n h0 h1
  exact ⟨⟨a, b, c⟩, r, h, h2, h3⟩
/-- the call of it, at slot 0 -/
theorem pick_call (s : Pu) (ρ : Env) (n : Int) (h0 : 0 < n) (h1 : n < 1073741824) : ∃ (s' : Pu) (r : Int), callG [true, false] false F__law_pick [.own 0, .val (.int n)] (.p s.d :: ρ) = .ok (.int r) (.p s'.d :: ρ) ∧ 0 ≤ r ∧ r < n := by
  obtain ⟨s', r, h, h2, h3⟩ := pick_pu s n h0 h1
  exact ⟨s', r, call_own (i := 0) rfl rfl h rfl, h2, h3⟩
theorem sub_of {l : List Int} (p : Int → Bool) : (R12.filter p).Sublist R12 := List.filter_sublist
def aheadOk (d : D) : Prop := d = .non ∨ ∃ l : List Int, l.Sublist R12 ∧ d = iT l
theorem eqInt (i j : Int) : eqO (.int i) (.int j) = some (.bl (decide (i = j))) := eqO_int i j
theorem some_ok (s : Pu) (ah : D) (ha : aheadOk ah) : ∃ (s' : Pu) (l : List Int), F__law_some [s.d, ah] = .ok (iT l) [s'.d] ∧ l.Sublist R12 := by
  obtain ⟨s1, kind, e1, k0, k4⟩ := pick_call s [.v ah, .no, .no, .no] 4 (by decide) (by decide)
  have nonA : isNon ah = true ∨ ∃ l : List Int, l.Sublist R12 ∧ ah = iT l := ha.imp (fun h => by rw [h]; rfl) id
  by_cases hk : kind = 0 ∨ isNon ah = true
  · -- drawn number by number
    obtain ⟨s2, y, out, e2, sb⟩ := comp_some (S := Pu) (mt := tOfE (eOp2 eqO (rOf (eCall [true, false] false F__law_pick (aCons (rVar 0) (aCons (rOf (eC (.int 2))) aNil)))) (rOf (eC (.int 1))))) (me := eVar 4) (i := 4) (fun s x => [.p s.d, .v ah, .v (.int kind), .no, x]) (fun _ _ _ => rfl) (R12.map D.int)
      (fun s d _ => by
        obtain ⟨s', r, e, _, _⟩ := pick_call s [.v ah, .v (.int kind), .no, .v d] 2 (by decide) (by decide)
        exact ⟨s', decide (r = 1), by simp [e]⟩) (fun s d _ => by simp) [] s1 .no
    obtain ⟨l, hl, rfl⟩ := sub_ints sb
    refine ⟨s2, l, ?_, hl⟩
    have tt : ∀ l : List Int, tupleD [.lst (l.map D.int)] = some (iT l) := fun _ => rfl
    rcases hk with h | h
    · subst h
      simp [F__law_some, m__law_some, e1, rng12, e2, backE, wipeE, keepV, tt]
    · by_cases z : kind = 0
      · subst z
        simp [F__law_some, m__law_some, e1, rng12, e2, backE, wipeE, keepV, tt]
      · simp [F__law_some, m__law_some, e1, rng12, e2, backE, wipeE, keepV, tt, z, h]
  · have hk0 : ¬ kind = 0 := fun z => hk (.inl z)
    have hn : isNon ah = false := by cases q : isNon ah with
      | false => rfl
      | true => exact absurd (.inr q) hk
    obtain ⟨m, hm, rfl⟩ : ∃ l : List Int, l.Sublist R12 ∧ ah = iT l := nonA.resolve_left fun z => hk (.inr z)
    obtain ⟨s2, at_, e2, a0, a12⟩ := pick_call s1 [.v (iT m), .v (.int kind), .no, .no] 12 (by decide) (by decide)
    have tt : ∀ l : List Int, tupleD [.lst (l.map D.int)] = some (iT l) := fun _ => rfl
    have hi : ∀ k, inD (.int k) (iT m) = some (.bl (decide (k ∈ m))) := fun k => in_ints k m
    by_cases h1 : kind = 1
    · subst h1
      obtain ⟨y, e3⟩ := comp1 (mt := tOfE (eOp2 neO (rOf (eOp2 inD (rVar 4) (rVar 1))) (rOf (eOp2 eqO (rVar 4) (rVar 3))))) (me := eVar 4) (i := 4) (fun x => [.p s2.d, .v (iT m), .v (.int 1), .v (.int at_), x]) (fun _ _ => rfl) R12 (fun k => !decide (decide (k ∈ m) = decide (k = at_))) D.int (fun k _ => by simp [hi]) (fun k _ => by simp) .no
      refine ⟨s2, R12.filter (fun k => !decide (k ∈ m) == decide (k = at_)), ?_, List.filter_sublist⟩
      simp [F__law_some, m__law_some, e1, rng12, e2, e3, backE, wipeE, keepV, tt, hn]
    · by_cases h2 : kind = 2
      · subst h2
        obtain ⟨s3, y, out, e3, sb⟩ := comp_some (S := Pu) (mt := tOrM (tAndM (tOfE (eOp2 inD (rVar 4) (rVar 1))) (tOfE (eOp2 lt2 (rVar 4) (rVar 3)))) (tAndM (tOfE (eOp2 gt2 (rVar 4) (rVar 3))) (tOfE (eOp2 eqO (rOf (eCall [true, false] false F__law_pick (aCons (rVar 0) (aCons (rOf (eC (.int 2))) aNil)))) (rOf (eC (.int 1))))))) (me := eVar 4) (i := 4) (fun s x => [.p s.d, .v (iT m), .v (.int 2), .v (.int at_), x]) (fun _ _ _ => rfl) (R12.map D.int)
          (fun s d hd => by
            obtain ⟨k, hk, rfl⟩ := List.mem_map.mp hd
            obtain ⟨s', r, e, _, _⟩ := pick_call s [.v (iT m), .v (.int 2), .v (.int at_), .v (.int k)] 2 (by decide) (by decide)
            by_cases q1 : k ∈ m ∧ k < at_
            · exact ⟨s, true, by simp [hi, q1.1, q1.2]⟩
            · by_cases q2 : at_ < k
              · by_cases q3 : k ∈ m
                · exact ⟨s', decide (r = 1), by simp [hi, q2, q3, e, show ¬ k < at_ by omega]⟩
                · exact ⟨s', decide (r = 1), by simp [hi, q2, q3, e]⟩
              · by_cases q3 : k ∈ m
                · exact ⟨s, false, by simp [hi, q2, q3, show ¬ k < at_ from fun z => q1 ⟨q3, z⟩]⟩
                · exact ⟨s, false, by simp [hi, q2, q3]⟩) (fun s d _ => by simp) [] s2 .no
        obtain ⟨l, hl, rfl⟩ := sub_ints sb
        exact ⟨s3, l, by simp [F__law_some, m__law_some, e1, rng12, e2, e3, backE, wipeE, keepV, tt, hn], hl⟩
      · obtain ⟨s3, j, e3, j0, j4⟩ := pick_call s2 [.v (iT m), .v (.int kind), .v (.int at_), .no] 4 (by decide) (by decide)
        have rg : RgOk 0 12 := by unfold RgOk; omega
        have r12 : (D.tup (rngD 0 12)) = iT R12 := rfl
        have hat : [at_].Sublist R12 := by
          have : at_ ∈ R12 := by
            have : at_ = 0 ∨ at_ = 1 ∨ at_ = 2 ∨ at_ = 3 ∨ at_ = 4 ∨ at_ = 5 ∨ at_ = 6 ∨ at_ = 7 ∨ at_ = 8 ∨ at_ = 9 ∨ at_ = 10 ∨ at_ = 11 := by omega
            unfold R12
            simp
            omega
          exact List.singleton_sublist.mpr this
        have ix : ∃ l : List Int, l.Sublist R12 ∧ ixD (.lst [iT m, .tup [], iT R12, .tup [.int at_]]) (.int j) = some (iT l) := by
          have : j = 0 ∨ j = 1 ∨ j = 2 ∨ j = 3 := by omega
          rcases this with rfl | rfl | rfl | rfl
          · exact ⟨m, hm, rfl⟩
          · exact ⟨[], List.nil_sublist _, rfl⟩
          · exact ⟨R12, List.Sublist.refl _, rfl⟩
          · exact ⟨[at_], hat, rfl⟩
        obtain ⟨l, hl, ix⟩ := ix
        exact ⟨s3, l, by simp [F__law_some, m__law_some, e1, e2, e3, hn, hk0, h1, h2, eTupRg, rg, r12, ix], hl⟩
end NV

set_option Elab.async false
set_option linter.all false
set_option maxRecDepth 100000
set_option maxHeartbeats 4000000
namespace NV
open PySem PySem.Spec PyProof.Rows L2
theorem cell_ok (ns : List Int) (k : Int) (h0 : 0 ≤ k) (h1 : k < 1000) : ∃ v, F__law_cell [.scr ns, .int k] = .ok (.int v) [] := by
  by_cases hk : k < ns.length
  · have ix : ∃ v, ixD (.scr ns) (.int k) = some (.int v) := by
      have hl : k.toNat < ns.length := by omega
      refine ⟨ns[k.toNat], ?_⟩
      show (L2.atI ns k).map D.int = _
      simp [L2.atI, ixN, h0, hk, List.getElem?_eq_getElem hl]
    obtain ⟨v, ix⟩ := ix
    exact ⟨v, by simp [F__law_cell, m__law_cell, lenD, hk, ix]⟩
  · have m1 : mulD (.int k) (.int k) = some (.int (k * k)) := mulD_int (.inl (by omega))
    have m2 : ∀ j : Int, mulD (.int 5) (.int j) = some (.int (5 * j)) := fun j => mulD_int (.inl (by decide))
    have m3 : ∀ j : Int, mulD (.int 60013) (.int j) = some (.int (60013 * j)) := fun j => mulD_int (.inl (by decide))
    have m4 : ∀ a : Int, modD (.int a) (.int 1000000007) = some (.int (a % 1000000007)) := fun a => modD_int (by decide)
    have m5 : ∀ j : Int, mulD (.int j) (.int 30011) = some (.int (j * 30011)) := fun j => mulD_int (.inr (by decide))
    have sl : slD (.scr ns) none (some 4) = some (.lst ((cutL ns none (some 4)).map D.int)) := rfl
    obtain ⟨ρ', e, st, x, he⟩ := for_inv (g := gNm 3) (body := sSet 2 (eOp2 modD (rOf (eOp2 addD (rOf (eOp2 mulD (rVar 2) (rOf (eC (.int 30011))))) (rVar 3))) (rOf (eC (.int 1000000007))))) (fun ρ => ∃ (st : Int) (x : Slot), ρ = [.v (.scr ns), .v (.int k), .v (.int st), x]) ((cutL ns none (some 4)).map D.int)
      (fun d hd ρ ⟨st, x, hr⟩ => by
        obtain ⟨i, _, rfl⟩ := List.mem_map.mp hd
        subst hr
        exact ⟨_, [.v (.scr ns), .v (.int k), .v (.int ((st * 30011 + i) % 1000000007)), .v (.int i)], rfl, .inl (by simp [m4, m5]), _, _, rfl⟩) [.v (.scr ns), .v (.int k), .v (.int (60013 * (k * k + 5 * k + 3) % 1000000007)), .no] ⟨_, _, rfl⟩
    subst he
    exact ⟨st, by simp [F__law_cell, m__law_cell, lenD, hk, m1, m2, m3, m4, eSl, oNo, oSome, asI, sl, e]⟩
theorem purse_ok (v : Int) : ∃ s : Pu, F__law_purse [.int v] = .okF s.d [] := by
  have m1 : ∀ a : Int, modD (.int a) (.int 999999937) = some (.int (a % 999999937)) := fun a => modD_int (by decide)
  have m2 : ∀ j : Int, mulD (.int j) (.int 7907) = some (.int (j * 7907)) := fun j => mulD_int (.inr (by decide))
  have m3 : powD (.int 10) (.int 18) = some (.int (10 ^ 18)) := by
    show (if CPow 10 18 then _ else none) = _
    rw [if_pos ⟨by decide, by decide, by decide⟩]
    rfl
  by_cases h : (1000000000000000000 : Int) ≤ v
  · exact ⟨⟨v % 999999937 * 7907 + 4409, v, 0⟩, by simp [F__law_purse, m__law_purse, m1, m2, m3, intD, h, ixD, L2.atI, ixN, Pu.d]⟩
  · exact ⟨⟨v % 999999937 * 7907 + 4409, 0, 0⟩, by simp [F__law_purse, m__law_purse, m1, m2, m3, intD, h, ixD, L2.atI, ixN, Pu.d]⟩
/-! ### the law -/
theorem told_call {l m : List Int} (hl : l.Sublist R12) (hm : m.Sublist R12) (ρ : Env) : callG [false, false] false F__law_told [.val (iT l), .val (iT m)] ρ = .ok (.bl (ls l m)) ρ := call_val rfl rfl (told_ls hl hm) (.inl rfl)
theorem two_call {l m : List Int} (hl : l.Sublist R12) (hm : m.Sublist R12) (ρ : Env) : callG [false, false] false F__law_two [.val (iT l), .val (iT m)] ρ = .ok (.bl true) ρ := call_val rfl rfl (two_ok hl hm) (.inl rfl)
theorem body_ok (ns : List Int) (k : Int) (h0 : 0 ≤ k) (h1 : k < 1000) (s2 s3 s4 s5 : Slot) : ∃ t2 t3 t4 t5, (sSeq (sSetO 2 (eCall [false] true F__law_purse (aCons (rOf (eCall [false, false] false F__law_cell (aCons (rVar 0) (aCons (rVar 1) aNil)))) aNil))) (sSeq (sSet 3 (eCall [true, false] false F__law_some (aCons (rVar 2) (aCons (rOf (eC .non)) aNil)))) (sSeq (sSet 4 (eCall [true, false] false F__law_some (aCons (rVar 2) (aCons (rVar 3) aNil)))) (sSeq (sSet 5 (eCall [true, false] false F__law_some (aCons (rVar 2) (aCons (rVar 4) aNil)))) (sSeq (sIf (tOrM (tNotM (tOfE (eCall [false, false] false F__law_two (aCons (rVar 3) (aCons (rVar 4) aNil))))) (tOrM (tNotM (tOfE (eCall [false, false] false F__law_two (aCons (rVar 4) (aCons (rVar 5) aNil))))) (tNotM (tOfE (eCall [false, false] false F__law_two (aCons (rVar 3) (aCons (rVar 5) aNil))))))) (sRet (eC (.bl false))) sNil) (sSeq (sIf (tAndM (tOfE (eCall [false, false] false F__law_told (aCons (rVar 3) (aCons (rVar 4) aNil)))) (tAndM (tOfE (eCall [false, false] false F__law_told (aCons (rVar 4) (aCons (rVar 5) aNil)))) (tNotM (tOfE (eCall [false, false] false F__law_told (aCons (rVar 3) (aCons (rVar 5) aNil))))))) (sRet (eC (.bl false))) sNil) (sIf (tOrM (tOfE (eOp2 eqO (rOf (eCall [false, false] false F__law_told (aCons (rOf (eTup lNil)) (aCons (rVar 3) aNil)))) (rOf (eOp2 eqO (rVar 3) (rOf (eTup lNil)))))) (tOfE (eOp2 eqO (rOf (eCall [false, false] false F__law_told (aCons (rVar 3) (aCons (rOf (eTupRg (gRg1 (eC (.int 12))))) aNil)))) (rOf (eOp2 eqO (rOf (eCallB lenD (aCons (rVar 3) aNil))) (rOf (eC (.int 12)))))))) (sRet (eC (.bl false))) sNil))))))) [.v (.scr ns), .v (.int k), s2, s3, s4, s5] = .nx [.v (.scr ns), .v (.int k), t2, t3, t4, t5] := by
  obtain ⟨v, e1⟩ := cell_ok ns k h0 h1
  obtain ⟨p0, e2⟩ := purse_ok v
  obtain ⟨p1, one, e3, h1⟩ := some_ok p0 .non (.inl rfl)
  obtain ⟨p2, oth, e4, h2⟩ := some_ok p1 (iT one) (.inr ⟨one, h1, rfl⟩)
  obtain ⟨p3, thi, e5, h3⟩ := some_ok p2 (iT oth) (.inr ⟨oth, h2, rfl⟩)
  have c1 := fun ρ => call_val (fl := [false, false]) (F := F__law_cell) (rs := [.val (.scr ns), .val (.int k)]) (ρ := ρ) rfl rfl e1 (.inl rfl)
  have c2 := fun ρ => call_valF (fl := [false]) (F := F__law_purse) (rs := [.val (.int v)]) (ρ := ρ) rfl rfl e2 (.inl rfl)
  have c3 : callG [true, false] false F__law_some [.own 2, .val .non] [.v (.scr ns), .v (.int k), .o p0.d, s3, s4, s5] = .ok (iT one) [.v (.scr ns), .v (.int k), .o p1.d, s3, s4, s5] := call_own (i := 2) rfl rfl e3 rfl
  have c4 : callG [true, false] false F__law_some [.own 2, .val (iT one)] [.v (.scr ns), .v (.int k), .o p1.d, .v (iT one), s4, s5] = .ok (iT oth) [.v (.scr ns), .v (.int k), .o p2.d, .v (iT one), s4, s5] := call_own (i := 2) rfl rfl e4 rfl
  have c5 : callG [true, false] false F__law_some [.own 2, .val (iT oth)] [.v (.scr ns), .v (.int k), .o p2.d, .v (iT one), .v (iT oth), s5] = .ok (iT thi) [.v (.scr ns), .v (.int k), .o p3.d, .v (iT one), .v (iT oth), s5] := call_own (i := 2) rfl rfl e5 rfl
  have w1 := two_call h1 h2
  have w2 := two_call h2 h3
  have w3 := two_call h1 h3
  have t1 := told_call h1 h2
  have t2 := told_call h2 h3
  have t3 := told_call h1 h3
  have t4 : ∀ ρ, callG [false, false] false F__law_told [.val (.tup []), .val (iT one)] ρ = .ok (.bl (!decide (one = []))) ρ := fun ρ => by
    rw [← ls_bot h1]
    exact told_call (List.nil_sublist _) h1 ρ
  have t5 : ∀ ρ, callG [false, false] false F__law_told [.val (iT one), .val (.tup (rngD 0 12))] ρ = .ok (.bl (!decide (one.length = 12))) ρ := fun ρ => by
    rw [← ls_top h1]
    exact told_call h1 (List.Sublist.refl _) ρ
  have q1 : eqO (iT one) (.tup []) = some (.bl (decide (one = []))) := eqO_iT0 one
  have q2 : lenD [iT one] = some (.int one.length) := by
    show some (D.int ((one.map D.int).length : Nat)) = _
    rw [List.length_map]
  have rg : RgOk 0 12 := by unfold RgOk; omega
  refine ⟨.o p3.d, .v (iT one), .v (iT oth), .v (iT thi), ?_⟩
  have fin : ∀ ρ : Env, True := fun _ => trivial
  simp [c1, c2, c3, c4, c5, w1, w2, w3, t1]
  cases a : ls one oth with
  | false =>
    simp [t4, t5, q1, q2, eTupRg, rg]
    omega
  | true =>
    simp [t2]
    cases b : ls oth thi with
    | false =>
      simp [t4, t5, q1, q2, eTupRg, rg]
      omega
    | true =>
      simp [t3, ls_trans a b, t4, t5, q1, q2, eTupRg, rg]
      omega
theorem rng_small {n : Int} (h0 : 0 ≤ n) (h1 : n ≤ 1000) : rng1 (.int n) = some (rngD 0 n.toNat) := by
  show (if n ≤ 16777216 ∧ -(2 ^ 62 : Int) ≤ n then some (rngD 0 n.toNat) else none) = _
  rw [if_pos ⟨by omega, by omega⟩]
theorem law_ok (ns : List Int) : F_law [.scr ns] = .ok (.bl true) [] := by
  have h11 : [(11 : Int)].Sublist R12 := List.singleton_sublist.mpr (by decide)
  have h00 : [(0 : Int)].Sublist R12 := List.singleton_sublist.mpr (by decide)
  have t1 : ∀ ρ, callG [false, false] false F__law_told [.val (.tup []), .val (.tup [])] ρ = .ok (.bl false) ρ := told_call (l := []) (m := []) (List.nil_sublist _) (List.nil_sublist _)
  have t2 : ∀ ρ, callG [false, false] false F__law_told [.val (.tup []), .val (.tup [.int 11])] ρ = .ok (.bl true) ρ := told_call (l := []) (m := [11]) (List.nil_sublist _) h11
  have t3 : ∀ ρ, callG [false, false] false F__law_told [.val (.tup [.int 11]), .val (.tup [.int 0])] ρ = .ok (.bl true) ρ := told_call (l := [11]) (m := [0]) h11 h00
  obtain ⟨n, hn, e1, e2⟩ : ∃ n : Int, n ≤ 12 ∧ max2D [.int 2, .int (if (12 : Int) < (ns.length : Int) then 12 else (ns.length : Int))] = some (.int n) ∧ rng1 (.int n) = some (rngD 0 n.toNat) := by
    have b1 : ∀ j : Int, 0 ≤ j → j ≤ 12 → ∃ n : Int, n ≤ 12 ∧ max2D [.int 2, .int j] = some (.int n) ∧ rng1 (.int n) = some (rngD 0 n.toNat) := fun j j0 j1 => by
      by_cases h : 2 < j
      · exact ⟨j, j1, by simp [max2D, h], rng_small j0 (by omega)⟩
      · exact ⟨2, by omega, by simp [max2D, h], rng_small (by omega) (by omega)⟩
    exact b1 _ (by split <;> omega) (by split <;> omega)
  obtain ⟨ρ', e, s2, s3, s4, s5, s6, he⟩ := for_inv (g := gNm 1) (body := _) (fun ρ => ∃ s1 s2 s3 s4 s5 : Slot, ρ = [.v (.scr ns), s1, s2, s3, s4, s5]) (rngD 0 n.toNat)
    (fun d hd ρ ⟨s1, s2, s3, s4, s5, hr⟩ => by
      unfold rngD at hd
      obtain ⟨i, hi, rfl⟩ := List.mem_map.mp hd
      have := List.mem_range.mp hi
      subst hr
      obtain ⟨t2, t3, t4, t5, ee⟩ := body_ok ns (0 + (i : Int)) (by omega) (by omega) s2 s3 s4 s5
      exact ⟨_, _, rfl, .inl ee, _, _, _, _, _, rfl⟩) [.v (.scr ns), .no, .no, .no, .no, .no] ⟨_, _, _, _, _, rfl⟩
  subst he
  have mn : min2D [.int (ns.length : Int), .int 12] = some (.int (if (12 : Int) < (ns.length : Int) then 12 else (ns.length : Int))) := rfl
  have ln : lenD [.scr ns] = some (.int (ns.length : Int)) := rfl
  simp [F_law, m_law, t1, t2, t3, ln, mn, e1, e2, e]
theorem law_all (ns : List Int) (_ : ns.length ≤ 63) (_ : ∀ z ∈ ns, Builtin.Int.intBits z ≤ 1048576) : F_law [.scr ns] = .ok (.bl true) [] := law_ok ns
end NV

set_option Elab.async false
set_option linter.all false
set_option maxRecDepth 100000
set_option maxHeartbeats 0
namespace NV
open PySem PySem.Spec PyProof.Rows L2
def d_less_of : He.DefD := ⟨("less_of", none), "less_of", "less_of", defArgs S_less_of, defBody S_less_of, defScope S_less_of, [], []⟩
def d__law_cell : He.DefD := ⟨("_law_cell", none), "_law_cell", "_law_cell", defArgs S__law_cell, defBody S__law_cell, defScope S__law_cell, [], []⟩
def d__law_purse : He.DefD := ⟨("_law_purse", none), "_law_purse", "_law_purse", defArgs S__law_purse, defBody S__law_purse, defScope S__law_purse, [], []⟩
def d__law_pick : He.DefD := ⟨("_law_pick", none), "_law_pick", "_law_pick", defArgs S__law_pick, defBody S__law_pick, defScope S__law_pick, [], []⟩
def d__law_less : He.DefD := ⟨("_law_less", none), "_law_less", "_law_less", defArgs S__law_less, defBody S__law_less, defScope S__law_less, [], []⟩
def d_breaks_less : He.DefD := ⟨("breaks_less", none), "breaks_less", "breaks_less", defArgs S_breaks_less, defBody S_breaks_less, defScope S_breaks_less, [], []⟩
def d__law_some : He.DefD := ⟨("_law_some", none), "_law_some", "_law_some", defArgs S__law_some, defBody S__law_some, defScope S__law_some, [], []⟩
def d__law_told : He.DefD := ⟨("_law_told", none), "_law_told", "_law_told", defArgs S__law_told, defBody S__law_told, defScope S__law_told, [], []⟩
def d__law_two : He.DefD := ⟨("_law_two", none), "_law_two", "_law_two", defArgs S__law_two, defBody S__law_two, defScope S__law_two, [], []⟩
def d_law : He.DefD := ⟨("law", none), "law", "law", defArgs S_law, defBody S_law, defScope S_law, [], []⟩
def fnL : List He.DefD := [d_less_of, d__law_cell, d__law_purse, d__law_pick, d__law_less, d_breaks_less, d__law_some, d__law_told, d__law_two, d_law]
def faL : List He.Fa := [.glo "less_of", .glo "_law_cell", .glo "_law_purse", .glo "_law_pick", .glo "_law_less", .glo "breaks_less", .glo "_law_some", .glo "_law_told", .glo "_law_two", .glo "law", .free "min", .free "len", .free "int", .free "range", .free "tuple", .free "isinstance", .free "bool", .free "max"]
abbrev R : PySem.W.OpenRow := PySem.W.OpenLaw.row PySem.Challenge.rw_neversoon_k15_breaches_held
abbrev hk : PySem.W.Hook := He.hookD 4 faL fnL
def ob (s : PySem.W.SharedT) : He.AlD := He.obsDG 4 faL fnL (HandSHeadRun.getT s)
theorem ob_eq (s : PySem.W.SharedT) : ob s = hk.obs s.abs := He.obsDG_eq (HandSHeadRun.getT_eq s)
theorem run (w : World) : HandSHeadRun.RunEq R (PySem.W.view R.prog [11]) hk ob 4000 ["less_of", "breaks_less", "_law_cell", "_law_purse", "_law_pick", "_law_less", "_law_some", "_law_told", "_law_two"] w := by
  intro os
  kernel_rfl
theorem facts {P : Program} {w : World} {K : PySem.W.Frag} {h : Heap} {mg : Str → Option Value} {f : Addr} (X : K.In h) (G : h.Ns mainGlobals mg) (hfa : mg ("law" : Str) = some (.ref f)) (c : He.SaysD faL fnL K) :
    ∃ fd : FuncData, (∀ (s : Shared) (v : Value), BindsTo s fd ⟨[v], []⟩ [("_law_script", v)]) ∧ ∀ base : Heap, K.In base → base.Ns mainGlobals mg → FnOk P w K mg base (L2.CX P w) 5 f fd ["_law_script"] (spF K mg [false] F_law) := by
  have n_min := He.free_ok X G (c.fact 10 (f := .free "min") rfl)
  have n_len := He.free_ok X G (c.fact 11 (f := .free "len") rfl)
  have n_int := He.free_ok X G (c.fact 12 (f := .free "int") rfl)
  have n_range := He.free_ok X G (c.fact 13 (f := .free "range") rfl)
  have n_tuple := He.free_ok X G (c.fact 14 (f := .free "tuple") rfl)
  have n_isinstance := He.free_ok X G (c.fact 15 (f := .free "isinstance") rfl)
  have n_bool := He.free_ok X G (c.fact 16 (f := .free "bool") rfl)
  have n_max := He.free_ok X G (c.fact 17 (f := .free "max") rfl)
  obtain ⟨fd_0, D_0⟩ := c.def_ 0 (d := d_less_of) rfl
  have g_0 := He.glo_ok X G (c.fact 0 (f := .glo "less_of") rfl)
  obtain ⟨fd_1, D_1⟩ := c.def_ 1 (d := d__law_cell) rfl
  have g_1 := He.glo_ok X G (c.fact 1 (f := .glo "_law_cell") rfl)
  obtain ⟨fd_2, D_2⟩ := c.def_ 2 (d := d__law_purse) rfl
  have g_2 := He.glo_ok X G (c.fact 2 (f := .glo "_law_purse") rfl)
  obtain ⟨fd_3, D_3⟩ := c.def_ 3 (d := d__law_pick) rfl
  have g_3 := He.glo_ok X G (c.fact 3 (f := .glo "_law_pick") rfl)
  obtain ⟨fd_4, D_4⟩ := c.def_ 4 (d := d__law_less) rfl
  have g_4 := He.glo_ok X G (c.fact 4 (f := .glo "_law_less") rfl)
  obtain ⟨fd_5, D_5⟩ := c.def_ 5 (d := d_breaks_less) rfl
  have g_5 := He.glo_ok X G (c.fact 5 (f := .glo "breaks_less") rfl)
  obtain ⟨fd_6, D_6⟩ := c.def_ 6 (d := d__law_some) rfl
  have g_6 := He.glo_ok X G (c.fact 6 (f := .glo "_law_some") rfl)
  obtain ⟨fd_7, D_7⟩ := c.def_ 7 (d := d__law_told) rfl
  have g_7 := He.glo_ok X G (c.fact 7 (f := .glo "_law_told") rfl)
  obtain ⟨fd_8, D_8⟩ := c.def_ 8 (d := d__law_two) rfl
  have g_8 := He.glo_ok X G (c.fact 8 (f := .glo "_law_two") rfl)
  obtain ⟨fd_9, D_9⟩ := c.def_ 9 (d := d_law) rfl
  have g_9 := He.glo_ok X G (c.fact 9 (f := .glo "law") rfl)
  have h_less_of := fun base : Heap => has_less_of (P := P) (w := w) (base := base) D_0 g_0 n_min
  have h__law_cell := fun base : Heap => has__law_cell (P := P) (w := w) (base := base) D_1 g_1 n_len
  have h__law_purse := fun base : Heap => has__law_purse (P := P) (w := w) (base := base) D_2 g_2 n_int
  have h__law_pick := fun base : Heap => has__law_pick (P := P) (w := w) (base := base) D_3 g_3 
  have h__law_less := fun base : Heap => has__law_less (P := P) (w := w) (base := base) D_4 g_4 n_range
  have h_breaks_less := fun base : Heap => has_breaks_less (P := P) (w := w) (base := base) D_5 g_5 (h_less_of base)
  have h__law_some := fun base : Heap => has__law_some (P := P) (w := w) (base := base) D_6 g_6 (h__law_pick base) n_range n_tuple
  have h__law_told := fun base : Heap => has__law_told (P := P) (w := w) (base := base) D_7 g_7 (h_breaks_less base) n_isinstance n_bool
  have h__law_two := fun base : Heap => has__law_two (P := P) (w := w) (base := base) D_8 g_8 (h__law_less base) (h__law_told base) n_range
  have e := hfa.symm.trans g_9
  cases e
  have b := FunD.bindsA (ps := ["_law_script"]) D_9 fun _ _ _ _ _ _ us hl => match us, hl with | [_], _ => rfl
  exact ⟨fd_9, fun s v => b s [v] rfl, fun base _ _ => fn_law (P := P) (w := w) (base := base) D_9 (h__law_told base) (h__law_cell base) (h__law_purse base) (h__law_some base) (h__law_two base) n_range n_len n_min n_max n_tuple⟩
end NV
open PySem PySem.W PySem.Calls PyProof.Rows
theorem PySem.Challenge.cw_neversoon_k15_breaches_held_holds : PySem.Challenge.rw_neversoon_k15_breaches_held.Holds := by
  w_on; o_law
  refine HandSHeadRun.head_any (r := OpenLaw.row PySem.Challenge.rw_neversoon_k15_breaches_held) (q := view (OpenLaw.row PySem.Challenge.rw_neversoon_k15_breaches_held).prog [11]) (H := NV.hk) (ob := NV.ob) (M := 4000) (loose := ["less_of", "breaks_less", "_law_cell", "_law_purse", "_law_pick", "_law_less", "_law_some", "_law_told", "_law_two"]) (d := HandSHeadRun.topDef (OpenLaw.row PySem.Challenge.rw_neversoon_k15_breaches_held).prog 11) (kwd := []) NV.ob_eq
    (by kernel_rfl) (fun s => by kernel_rfl) NV.run (by kernel_rfl) (by kernel_rfl) (by kernel_rfl) (by rfl) (by first | assumption | decide +kernel) (by decide +kernel) ⟨rfl, rfl, rfl, rfl, rfl, by decide +kernel⟩ ?hw ?hc
  case hw => w_witness2
  case hc =>
    refine NV.walk_own (l := PySem.Challenge.rw_neversoon_k15_breaches_held) (n := 63) (k := 5) (x := "_law_script") rfl (by decide) (by kernel_rfl) ⟨rfl, by decide, by decide⟩ ?F
    intro w mg fa h Y G hmg0
    obtain ⟨K, KX, c⟩ := Y
    have hmg : mg ("law" : PySem.Str) = some (.ref fa) := by
      have e : (HandSHeadRun.topDef (OpenLaw.row PySem.Challenge.rw_neversoon_k15_breaches_held).prog 11).name = ("law" : PySem.Str) := by kernel_rfl
      rw [← e]
      exact hmg0
    obtain ⟨fd, hb, hF⟩ := NV.facts (P := (PySem.Challenge.rw_neversoon_k15_breaches_held).prog) (w := w) KX G hmg c
    exact ⟨K, fd, NV.F_law, KX, hb, fun ns hl hb => NV.law_all ns hl hb, hF⟩
