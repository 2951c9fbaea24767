import PyProof.Rows.All
import Wide.All
import OpenK.AllK
import Wide.FinOn
import HandS.ForMost
import HandS.ForExc
import HandS.CallSlots
import HandS.TupAny
import HandS.TupMul
import HandS.Deep
import HandS.Wide
import HandS.Style
import HandS.TupLen
import HandS.Flow
import HandS.IsInst
import HandS.SetKeys
import PyProof.ReprRoads
import PyProof.Rows.RegFStrParts
import HandS.Zip
import KE.KExcSuper
import HandS.ExcSuper
import HandS.ExcIs
import KE.KExcIs
import HandS.Small
import HandS.EndBits
import HandS.ExcInit
import HandS.HotCalls
import PySem.Challenge.RW_answersinturn_k00_errors_and_limits
set_option Elab.async false
set_option linter.all false
set_option maxRecDepth 100000
set_option maxHeartbeats 2000000
/-! Mp1: data as Lean values, a store of numbered mutable objects, results, and what holds between these and the abstract heap. -/
namespace Mp
open PySem PySem.Spec PyProof.Rows L2

/- a value: immutable data as it is, a mutable object by its number, a class or function of the text by its number -/
abbrev strOk (x : Str) : Bool := PyData.strOk x
inductive D where
  | non | bl (b : Bool) | int (i : Int) | str (s : Str) | tup (l : List D) | wt (l : List D) | fz (l : List D) | loc (n : Nat) | cst (k : Nat)
/-- a mutable object -/
inductive Ob where
  | lst (l : List D) | dK (l : List (Key × D)) | dT (l : List (List Key × D)) | ins (c : Nat) (fs : List (Str × D))
abbrev Sto := List Ob
abbrev Slots := List (Option D)
/-- an exception: its class, its fields -/
structure Ex where
  c : Nat
  fs : List (Str × D)
inductive Res (α : Type) where
  | ok (a : α) (st : Sto) | exc (x : Ex) (st : Sto) | bad
def Res.bind {α β : Type} (r : Res α) (f : α → Sto → Res β) : Res β := match r with
  | .ok a st => f a st
  | .exc x st => .exc x st
  | .bad => .bad
inductive SR where
  | nx (e : Slots) (st : Sto) | rt (d : D) (st : Sto) | bk (e : Slots) (st : Sto) | ct (e : Slots) (st : Sto) | exc (x : Ex) (e : Slots) (st : Sto) | bad
abbrev M := Slots → Sto → Res D
abbrev MT := Slots → Sto → Res Bool
abbrev MA := Slots → Sto → Res (List D)
abbrev MS := Slots → Sto → SR

/-- the exception that a suite holds: its slot, its address, its dict's address -/
structure Cur where
  i : Nat
  a : Addr
  d : Addr
  x : Ex
structure Cfg where
  K : PySem.W.Frag
  cv : Nat → V
  ca : Nat → Addr
  cur : Option Cur

def SqF (K : PySem.W.Frag) (H : Hp) (a : Addr) (xs : List V) : Prop :=
  (∃ o, H a = some (.frz o (.lst xs))) ∨
    ∃ (o : Obj) (its : Array Value) (n : Nat), K.lookup a = some o ∧ o.cls = .type "list" ∧ o.dict = none ∧ o.data = .seq its n ∧ its.size ≤ sizeLine ∧ Vals xs its.toList
theorem SqF.sq {K : PySem.W.Frag} {H : Hp} {a : Addr} {xs : List V} (h : SqF K H a xs) : SqL K H a xs := by
  rcases h with h | h
  · exact .inl (.inr h)
  · exact .inr h

mutual
def RD (Γ : Cfg) (μ : List Addr) (H : Hp) : D → V → Prop
  | .non, v => v = .non
  | .bl b, v => v = .bl b
  | .int i, v => v = .int i
  | .str s, v => v = .str s ∧ strOk s = true
  | .tup l, v => ∃ a vs, v = .ref a ∧ H a = some (.tup vs) ∧ RDs Γ μ H l vs
  | .wt l, v => ∃ a vs, v = .ref a ∧ SqT Γ.K H a vs ∧ RDs Γ μ H l vs
  | .fz l, v => ∃ a vs, v = .ref a ∧ SqF Γ.K H a vs ∧ RDs Γ μ H l vs
  | .loc n, v => ∃ a, μ[n]? = some a ∧ v = .ref a
  | .cst k, v => v = Γ.cv k
def RDs (Γ : Cfg) (μ : List Addr) (H : Hp) : List D → List V → Prop
  | [], vs => vs = []
  | d :: l, vs => ∃ v r, vs = v :: r ∧ RD Γ μ H d v ∧ RDs Γ μ H l r
end

/-- keyed values: a dict's entries, an object's fields -/
def RKs {κ : Type} (Γ : Cfg) (μ : List Addr) (H : Hp) : List (κ × D) → List (κ × V) → Prop
  | [], vs => vs = []
  | p :: l, vs => ∃ v r, vs = (p.1, v) :: r ∧ RD Γ μ H p.2 v ∧ RKs Γ μ H l r

def RO (Γ : Cfg) (μ : List Addr) (H : Hp) (a : Addr) : Ob → Prop
  | .lst l => ∃ vs, H a = some (.lst vs) ∧ RDs Γ μ H l vs
  | .dK l => ∃ vs, H a = some (.dK vs) ∧ RKs Γ μ H l vs
  | .dT l => ∃ vs, H a = some (.dT vs) ∧ RKs Γ μ H l vs
  | .ins c fs => ∃ dx vs, H a = some (.ins (Γ.ca c) dx vs) ∧ RKs Γ μ H fs vs
def RX (Γ : Cfg) (μ : List Addr) (H : Hp) (x : Ex) (c : Value) (d : Option Addr) : Prop :=
  c = .ref (Γ.ca x.c) ∧ ∃ dd vs, d = some dd ∧ H dd = some (.xd vs) ∧ RKs Γ μ H x.fs vs
structure RS (Γ : Cfg) (μ : List Addr) (H : Hp) (st : Sto) : Prop where
  len : μ.length = st.length
  inj : ∀ (i j : Nat) (a : Addr), μ[i]? = some a → μ[j]? = some a → i = j
  ob : ∀ (n : Nat) (o : Ob), st[n]? = some o → ∃ a, μ[n]? = some a ∧ RO Γ μ H a o
  cur : ∀ q, Γ.cur = some q → RX Γ μ H q.x (.ref (Γ.ca q.x.c)) (some q.d)
def REl (Γ : Cfg) (μ : List Addr) (H : Hp) : Slots → L2.St → Prop
  | [], s => s = []
  | o :: e, s => ∃ v r, s = v :: r ∧ (∀ d, o = some d → ∃ u, v = some u ∧ RD Γ μ H d u) ∧ REl Γ μ H e r
structure RE (Γ : Cfg) (μ : List Addr) (H : Hp) (e : Slots) (s : L2.St) : Prop where
  l : REl Γ μ H e s
  cur : ∀ q, Γ.cur = some q → s[q.i]? = some (some (.ref q.a))

def Imm : HO → Prop
  | .tup _ => True
  | .frz _ _ => True
  | .xd _ => True
  | _ => False
structure Ext (μ : List Addr) (H : Hp) (μ' : List Addr) (H' : Hp) : Prop where
  pre : ∀ (n : Nat) (a : Addr), μ[n]? = some a → μ'[n]? = some a
  imm : ∀ a o, H a = some o → Imm o → H' a = some o
  frame : ∀ a o, H a = some o → a ∉ μ → H' a = some o
  nw : ∀ a, a ∈ μ' → a ∈ μ ∨ H a = none
theorem Ext.refl (μ : List Addr) (H : Hp) : Ext μ H μ H := ⟨fun _ _ h => h, fun _ _ h _ => h, fun _ _ h _ => h, fun _ h => .inl h⟩
theorem Ext.trans {μ μ1 μ2 : List Addr} {H H1 H2 : Hp} (a : Ext μ H μ1 H1) (b : Ext μ1 H1 μ2 H2) : Ext μ H μ2 H2 where
  pre := fun n x h => b.pre n x (a.pre n x h)
  imm := fun x o h i => b.imm x o (a.imm x o h i) i
  frame := fun x o h n => b.frame x o (a.frame x o h n) fun z => by
    rcases a.nw x z with q | q
    · exact n q
    · rw [q] at h; cases h
  nw := fun x h => by
    rcases b.nw x h with q | q
    · exact a.nw x q
    · by_cases hx : x ∈ μ
      · exact .inl hx
      · cases e : H x with
        | none => exact .inr rfl
        | some o => rw [a.frame x o e hx] at q; cases q
structure Wk (μ : List Addr) (H : Hp) (μ' : List Addr) (H' : Hp) : Prop where
  pre : ∀ (n : Nat) (a : Addr), μ[n]? = some a → μ'[n]? = some a
  imm : ∀ a o, H a = some o → Imm o → H' a = some o
theorem Ext.wk {μ μ' : List Addr} {H H' : Hp} (e : Ext μ H μ' H') : Wk μ H μ' H' := ⟨e.pre, e.imm⟩
section
variable {Γ : Cfg} {μ μ' : List Addr} {H H' : Hp}
theorem Wk.sqT {K : PySem.W.Frag} {a : Addr} {xs : List V} (e : Wk μ H μ' H') (h : SqT K H a xs) : SqT K H' a xs := by
  rcases h with (h | ⟨o, h⟩) | h
  · exact .inl (.inl (e.imm _ _ h trivial))
  · exact .inl (.inr ⟨o, e.imm _ _ h trivial⟩)
  · exact .inr h
theorem Wk.sqF {K : PySem.W.Frag} {a : Addr} {xs : List V} (e : Wk μ H μ' H') (h : SqF K H a xs) : SqF K H' a xs := by
  rcases h with ⟨o, h⟩ | h
  · exact .inl ⟨o, e.imm _ _ h trivial⟩
  · exact .inr h
mutual
theorem RD.monoW (e : Wk μ H μ' H') : ∀ {d : D} {v : V}, RD Γ μ H d v → RD Γ μ' H' d v
  | .non, _, h => by unfold RD at h ⊢; exact h
  | .bl _, _, h => by unfold RD at h ⊢; exact h
  | .int _, _, h => by unfold RD at h ⊢; exact h
  | .str _, _, h => by unfold RD at h ⊢; exact h
  | .tup l, _, h => by
    unfold RD at h ⊢
    obtain ⟨a, vs, h1, h2, h3⟩ := h
    exact ⟨a, vs, h1, e.imm _ _ h2 trivial, RDs.monoW e h3⟩
  | .wt l, _, h => by
    unfold RD at h ⊢
    obtain ⟨a, vs, h1, h2, h3⟩ := h
    exact ⟨a, vs, h1, e.sqT h2, RDs.monoW e h3⟩
  | .fz l, _, h => by
    unfold RD at h ⊢
    obtain ⟨a, vs, h1, h2, h3⟩ := h
    exact ⟨a, vs, h1, e.sqF h2, RDs.monoW e h3⟩
  | .loc n, _, h => by
    unfold RD at h ⊢
    obtain ⟨a, h1, h2⟩ := h
    exact ⟨a, e.pre _ _ h1, h2⟩
  | .cst _, _, h => by unfold RD at h ⊢; exact h
theorem RDs.monoW (e : Wk μ H μ' H') : ∀ {l : List D} {vs : List V}, RDs Γ μ H l vs → RDs Γ μ' H' l vs
  | [], _, h => by unfold RDs at h ⊢; exact h
  | d :: l, _, h => by
    unfold RDs at h ⊢
    obtain ⟨v, r, h1, h2, h3⟩ := h
    exact ⟨v, r, h1, RD.monoW e h2, RDs.monoW e h3⟩
end
theorem RKs.monoW {κ : Type} (e : Wk μ H μ' H') : ∀ {l : List (κ × D)} {vs : List (κ × V)}, RKs Γ μ H l vs → RKs Γ μ' H' l vs
  | [], _, h => h
  | p :: l, _, h => by
    obtain ⟨v, r, h1, h2, h3⟩ := h
    exact ⟨v, r, h1, RD.monoW e h2, RKs.monoW e h3⟩
theorem RD.mono (e : Ext μ H μ' H') {d : D} {v : V} (h : RD Γ μ H d v) : RD Γ μ' H' d v := RD.monoW e.wk h
theorem RDs.mono (e : Ext μ H μ' H') {l : List D} {vs : List V} (h : RDs Γ μ H l vs) : RDs Γ μ' H' l vs := RDs.monoW e.wk h
theorem RKs.mono {κ : Type} (e : Ext μ H μ' H') {l : List (κ × D)} {vs : List (κ × V)} (h : RKs Γ μ H l vs) : RKs Γ μ' H' l vs := RKs.monoW e.wk h
theorem REl.mono (e : Ext μ H μ' H') : ∀ {l : Slots} {s : L2.St}, REl Γ μ H l s → REl Γ μ' H' l s
  | [], _, h => h
  | o :: l, _, h => by
    obtain ⟨v, r, h1, h2, h3⟩ := h
    refine ⟨v, r, h1, fun d hd => ?_, REl.mono e h3⟩
    obtain ⟨u, hu, hr⟩ := h2 d hd
    exact ⟨u, hu, RD.mono e hr⟩
theorem RE.mono (e : Ext μ H μ' H') {l : Slots} {s : L2.St} (h : RE Γ μ H l s) : RE Γ μ' H' l s := ⟨h.l.mono e, h.cur⟩
theorem RX.mono (e : Ext μ H μ' H') {x : Ex} {c : Value} {d : Option Addr} (h : RX Γ μ H x c d) : RX Γ μ' H' x c d := by
  obtain ⟨h1, dd, vs, h2, h3, h4⟩ := h
  exact ⟨h1, dd, vs, h2, e.imm _ _ h3 trivial, h4.mono e⟩
/-- an object elsewhere -/
theorem RO.mono (e : Ext μ H μ' H') {a : Addr} {o : Ob} (hs : ∀ u, H a = some u → H' a = some u) (h : RO Γ μ H a o) : RO Γ μ' H' a o := by
  cases o with
  | lst l => obtain ⟨vs, h1, h2⟩ := h; exact ⟨vs, hs _ h1, h2.mono e⟩
  | dK l => obtain ⟨vs, h1, h2⟩ := h; exact ⟨vs, hs _ h1, h2.mono e⟩
  | dT l => obtain ⟨vs, h1, h2⟩ := h; exact ⟨vs, hs _ h1, h2.mono e⟩
  | ins c fs => obtain ⟨dx, vs, h1, h2⟩ := h; exact ⟨dx, vs, hs _ h1, h2.mono e⟩
theorem RO.monoW (e : Wk μ H μ' H') {a : Addr} {o : Ob} (hs : ∀ u, H a = some u → H' a = some u) (h : RO Γ μ H a o) : RO Γ μ' H' a o := by
  cases o with
  | lst l => obtain ⟨vs, h1, h2⟩ := h; exact ⟨vs, hs _ h1, h2.monoW e⟩
  | dK l => obtain ⟨vs, h1, h2⟩ := h; exact ⟨vs, hs _ h1, h2.monoW e⟩
  | dT l => obtain ⟨vs, h1, h2⟩ := h; exact ⟨vs, hs _ h1, h2.monoW e⟩
  | ins c fs => obtain ⟨dx, vs, h1, h2⟩ := h; exact ⟨dx, vs, hs _ h1, h2.monoW e⟩
theorem RO.here {a : Addr} {o : Ob} (h : RO Γ μ H a o) : ∃ u, H a = some u ∧ ¬ Imm u := by
  cases o with
  | lst l => obtain ⟨vs, h1, h2⟩ := h; exact ⟨_, h1, id⟩
  | dK l => obtain ⟨vs, h1, h2⟩ := h; exact ⟨_, h1, id⟩
  | dT l => obtain ⟨vs, h1, h2⟩ := h; exact ⟨_, h1, id⟩
  | ins c fs => obtain ⟨dx, vs, h1, h2⟩ := h; exact ⟨_, h1, id⟩
theorem RDs.length : ∀ {l : List D} {vs : List V}, RDs Γ μ H l vs → vs.length = l.length
  | [], _, h => by unfold RDs at h; subst h; rfl
  | d :: l, _, h => by
    unfold RDs at h
    obtain ⟨v, r, rfl, h2, h3⟩ := h
    simp [RDs.length h3]
theorem RDs.get : ∀ {l : List D} {vs : List V} {i : Nat} {d : D}, RDs Γ μ H l vs → l[i]? = some d → ∃ v, vs[i]? = some v ∧ RD Γ μ H d v
  | [], _, _, _, h, e => by simp at e
  | d :: l, _, 0, _, h, e => by
    unfold RDs at h
    obtain ⟨v, r, rfl, h2, h3⟩ := h
    simp at e
    subst e
    exact ⟨v, by simp, h2⟩
  | d :: l, _, i + 1, x, h, e => by
    unfold RDs at h
    obtain ⟨v, r, rfl, h2, h3⟩ := h
    obtain ⟨u, h4, h5⟩ := RDs.get (i := i) (d := x) h3 (by simpa using e)
    exact ⟨u, by simpa using h4, h5⟩
theorem RDs.nil : RDs Γ μ H [] [] := by unfold RDs; rfl
theorem RDs.cons {d : D} {v : V} {l : List D} {vs : List V} (h : RD Γ μ H d v) (t : RDs Γ μ H l vs) : RDs Γ μ H (d :: l) (v :: vs) := by
  unfold RDs
  exact ⟨v, vs, rfl, h, t⟩
theorem RDs.uncons {d : D} {l : List D} {vs : List V} (h : RDs Γ μ H (d :: l) vs) : ∃ v r, vs = v :: r ∧ RD Γ μ H d v ∧ RDs Γ μ H l r := by
  unfold RDs at h
  exact h
theorem RDs.unnil {vs : List V} (h : RDs Γ μ H [] vs) : vs = [] := by unfold RDs at h; exact h
theorem RDs.append : ∀ {l l' : List D} {vs vs' : List V}, RDs Γ μ H l vs → RDs Γ μ H l' vs' → RDs Γ μ H (l ++ l') (vs ++ vs')
  | [], _, _, _, h, t => by cases h.unnil; exact t
  | d :: l, _, _, _, h, t => by
    obtain ⟨v, r, rfl, h2, h3⟩ := h.uncons
    exact RDs.cons h2 (RDs.append h3 t)
theorem RDs.take : ∀ {l : List D} {vs : List V} (n : Nat), RDs Γ μ H l vs → RDs Γ μ H (l.take n) (vs.take n)
  | _, _, 0, _ => by simp; exact RDs.nil
  | [], _, n + 1, h => by cases h.unnil; simp; exact RDs.nil
  | d :: l, _, n + 1, h => by
    obtain ⟨v, r, rfl, h2, h3⟩ := h.uncons
    exact RDs.cons h2 (RDs.take n h3)
theorem RDs.drop : ∀ {l : List D} {vs : List V} (n : Nat), RDs Γ μ H l vs → RDs Γ μ H (l.drop n) (vs.drop n)
  | _, _, 0, h => h
  | [], _, n + 1, h => by cases h.unnil; simp; exact RDs.nil
  | d :: l, _, n + 1, h => by
    obtain ⟨v, r, rfl, h2, h3⟩ := h.uncons
    exact RDs.drop n h3
theorem RDs.reverse : ∀ {l : List D} {vs : List V}, RDs Γ μ H l vs → RDs Γ μ H l.reverse vs.reverse
  | [], _, h => by cases h.unnil; exact RDs.nil
  | d :: l, _, h => by
    obtain ⟨v, r, rfl, h2, h3⟩ := h.uncons
    simp only [List.reverse_cons]
    exact RDs.append (RDs.reverse h3) (RDs.cons h2 RDs.nil)
theorem RDs.set : ∀ {l : List D} {vs : List V} {d : D} {v : V} (n : Nat), RDs Γ μ H l vs → RD Γ μ H d v → RDs Γ μ H (l.set n d) (vs.set n v)
  | [], _, _, _, n, h, _ => by cases h.unnil; simp; exact RDs.nil
  | _ :: _, _, _, _, 0, h, q => by
    obtain ⟨v, r, rfl, h2, h3⟩ := h.uncons
    exact RDs.cons q h3
  | _ :: _, _, _, _, n + 1, h, q => by
    obtain ⟨v, r, rfl, h2, h3⟩ := h.uncons
    exact RDs.cons h2 (RDs.set n h3 q)
theorem RDs.dropLast : ∀ {l : List D} {vs : List V}, RDs Γ μ H l vs → RDs Γ μ H l.dropLast vs.dropLast := fun {l vs} h => by
  have := h.take (vs.length - 1)
  rw [List.dropLast_eq_take, List.dropLast_eq_take, ← h.length]
  exact this
theorem REl.length : ∀ {l : Slots} {s : L2.St}, REl Γ μ H l s → s.length = l.length
  | [], _, h => by cases (show _ = [] from h); rfl
  | o :: l, _, h => by
    obtain ⟨v, r, rfl, h2, h3⟩ := h
    simp [REl.length h3]
theorem REl.get : ∀ {l : Slots} {s : L2.St} {i : Nat} {d : D}, REl Γ μ H l s → l[i]? = some (some d) → ∃ v, s[i]? = some (some v) ∧ RD Γ μ H d v
  | [], _, _, _, _, e => by simp at e
  | o :: l, _, 0, d, h, e => by
    obtain ⟨v, r, rfl, h2, h3⟩ := h
    simp at e
    obtain ⟨u, rfl, hr⟩ := h2 d e
    exact ⟨u, by simp, hr⟩
  | o :: l, _, i + 1, d, h, e => by
    obtain ⟨v, r, rfl, h2, h3⟩ := h
    obtain ⟨u, h4, h5⟩ := REl.get (i := i) (d := d) h3 (by simpa using e)
    exact ⟨u, by simpa using h4, h5⟩
theorem REl.set : ∀ {l : Slots} {s : L2.St} {d : D} {v : V} (i : Nat), REl Γ μ H l s → RD Γ μ H d v → REl Γ μ H (l.set i (some d)) (s.set i (some v))
  | [], _, _, _, _, h, _ => by cases (show _ = [] from h); exact rfl
  | o :: l, _, _, _, 0, h, q => by
    obtain ⟨v, r, rfl, h2, h3⟩ := h
    exact ⟨_, _, rfl, fun d hd => by cases hd; exact ⟨_, rfl, q⟩, h3⟩
  | o :: l, _, _, _, i + 1, h, q => by
    obtain ⟨v, r, rfl, h2, h3⟩ := h
    exact ⟨_, _, rfl, h2, REl.set i h3 q⟩
/-- a slot forgotten -/
theorem REl.forget : ∀ {l : Slots} {s : L2.St} {o : Option V} (i : Nat), REl Γ μ H l s → REl Γ μ H (l.set i none) (s.set i o)
  | [], _, _, _, h => by cases (show _ = [] from h); exact rfl
  | o :: l, _, _, 0, h => by
    obtain ⟨v, r, rfl, h2, h3⟩ := h
    exact ⟨_, _, rfl, fun d hd => (by cases hd), h3⟩
  | o :: l, _, _, i + 1, h => by
    obtain ⟨v, r, rfl, h2, h3⟩ := h
    exact ⟨_, _, rfl, h2, REl.forget i h3⟩
theorem REl.nones : ∀ n : Nat, REl Γ μ H (List.replicate n none) (List.replicate n none)
  | 0 => rfl
  | n + 1 => ⟨_, _, rfl, fun d hd => (by cases hd), REl.nones n⟩
theorem REl.args : ∀ {l : List D} {vs : List V} (n : Nat), RDs Γ μ H l vs → REl Γ μ H (l.map some ++ List.replicate n none) (vs.map some ++ List.replicate n none)
  | [], _, n, h => by cases h.unnil; exact REl.nones n
  | d :: l, _, n, h => by
    obtain ⟨v, r, rfl, h2, h3⟩ := h.uncons
    exact ⟨_, _, rfl, fun x hx => by cases hx; exact ⟨_, rfl, h2⟩, REl.args n h3⟩

/-! ### the store grows, an object changes -/
theorem Ext.new {p : Addr} {o : HO} (hp : H p = none) : Ext μ H (μ ++ [p]) (upd H p o) where
  pre := fun n a h => by
    have hn : n < μ.length := (List.getElem?_eq_some_iff.mp h).1
    rw [List.getElem?_append_left hn]
    exact h
  imm := fun a u h _ => by rw [upd_ne (ne_of_none h hp)]; exact h
  frame := fun a u h _ => by rw [upd_ne (ne_of_none h hp)]; exact h
  nw := fun a h => by
    rcases List.mem_append.mp h with q | q
    · exact .inl q
    · have : a = p := by simpa using q
      subst this
      exact .inr hp
/-- a new object that is no object of the store (a tuple) -/
theorem Ext.new0 {p : Addr} {o : HO} (hp : H p = none) : Ext μ H μ (upd H p o) :=
  ⟨fun _ _ h => h, fun a u h _ => by rw [upd_ne (ne_of_none h hp)]; exact h, fun a u h _ => by rw [upd_ne (ne_of_none h hp)]; exact h, fun _ h => .inl h⟩
theorem Ext.put {p : Addr} {n : Nat} {o u : HO} (hp : H p = some u) (hu : ¬ Imm u) (hn : μ[n]? = some p) : Ext μ H μ (upd H p o) :=
  ⟨fun _ _ h => h, fun a w h i => by
    rw [upd_ne fun z => ?_]
    · exact h
    · subst z; rw [hp] at h; cases h; exact hu i, fun a w h i => by
    rw [upd_ne fun z => ?_]
    · exact h
    · subst z; exact i (List.mem_of_getElem? hn), fun _ h => .inl h⟩
theorem RS.new0 {st : Sto} {p : Addr} {o : HO} (r : RS Γ μ H st) (hp : H p = none) : RS Γ μ (upd H p o) st :=
  ⟨r.len, r.inj, fun n ob h => by
    obtain ⟨a, h1, h2⟩ := r.ob n ob h
    exact ⟨a, h1, h2.mono (Ext.new0 hp) fun u hu => by rw [upd_ne (ne_of_none hu hp)]; exact hu⟩, fun q hq => (r.cur q hq).mono (Ext.new0 hp)⟩
theorem RS.mu_some {st : Sto} (r : RS Γ μ H st) {n : Nat} {a : Addr} (h : μ[n]? = some a) : ∃ o, st[n]? = some o ∧ RO Γ μ H a o := by
  have hn : n < st.length := by rw [← r.len]; exact (List.getElem?_eq_some_iff.mp h).1
  obtain ⟨b, h1, h2⟩ := r.ob n st[n] (by simp [hn])
  rw [h] at h1
  cases h1
  exact ⟨st[n], by simp [hn], h2⟩
theorem RS.new {st : Sto} {p : Addr} {o : HO} {ob : Ob} (r : RS Γ μ H st) (hp : H p = none) (h : RO Γ (μ ++ [p]) (upd H p o) p ob) : RS Γ (μ ++ [p]) (upd H p o) (st ++ [ob]) := by
  have hno : ∀ i : Nat, μ[i]? ≠ some p := fun i z => by
    obtain ⟨o, h1, h2⟩ := r.mu_some z
    obtain ⟨u, h3, _⟩ := h2.here
    rw [hp] at h3
    cases h3
  have at_ : ∀ (i : Nat) (a : Addr), (μ ++ [p])[i]? = some a → (μ[i]? = some a) ∨ (i = μ.length ∧ a = p) := fun i a h => by
    by_cases hi : i < μ.length
    · rw [List.getElem?_append_left hi] at h
      exact .inl h
    · have h0 : i < (μ ++ [p]).length := (List.getElem?_eq_some_iff.mp h).1
      have h1 : i = μ.length := by simp at h0; omega
      subst h1
      simp at h
      exact .inr ⟨rfl, h.symm⟩
  refine ⟨by simp [r.len], fun i j a h1 h2 => ?_, fun n o' h' => ?_, fun q hq => (r.cur q hq).mono (Ext.new hp)⟩
  · rcases at_ i a h1 with z1 | ⟨z1, z2⟩
    · rcases at_ j a h2 with y1 | ⟨y1, y2⟩
      · exact r.inj i j a z1 y1
      · subst y2; exact absurd z1 (hno i)
    · rcases at_ j a h2 with y1 | ⟨y1, y2⟩
      · subst z2; exact absurd y1 (hno j)
      · rw [z1, y1]
  · by_cases hn : n < st.length
    · rw [List.getElem?_append_left hn] at h'
      obtain ⟨a, h1, h2⟩ := r.ob n o' h'
      exact ⟨a, (Ext.new (o := o) hp).pre _ _ h1, h2.mono (Ext.new hp) fun u hu => by rw [upd_ne (ne_of_none hu hp)]; exact hu⟩
    · have h0 : n < (st ++ [ob]).length := (List.getElem?_eq_some_iff.mp h').1
      have h1 : n = st.length := by simp at h0; omega
      subst h1
      simp at h'
      subst h'
      refine ⟨p, by rw [← r.len]; simp, h⟩
theorem RS.put {st : Sto} {n : Nat} {a : Addr} {o : HO} {ob : Ob} (r : RS Γ μ H st) (hn : μ[n]? = some a) (h : RO Γ μ (upd H a o) a ob) : RS Γ μ (upd H a o) (st.set n ob) ∧ Ext μ H μ (upd H a o) := by
  obtain ⟨o0, h0, h1⟩ := r.mu_some hn
  obtain ⟨u, h2, h3⟩ := h1.here
  have e : Ext μ H μ (upd H a o) := Ext.put h2 h3 hn
  refine ⟨⟨by simp [r.len], r.inj, fun m o' h' => ?_, fun q hq => (r.cur q hq).mono e⟩, e⟩
  by_cases hm : m = n
  · subst hm
    have hl : m < st.length := (List.getElem?_eq_some_iff.mp h0).1
    rw [List.getElem?_set_self hl] at h'
    cases h'
    exact ⟨a, hn, h⟩
  · rw [List.getElem?_set_ne (Ne.symm hm)] at h'
    obtain ⟨b, h4, h5⟩ := r.ob m o' h'
    have hb : b ≠ a := fun z => by
      subst z
      exact hm (r.inj m n b h4 hn)
    exact ⟨b, h4, h5.mono e fun u hu => by rw [upd_ne hb]; exact hu⟩
end
end Mp

set_option Elab.async false
set_option linter.all false
set_option maxRecDepth 100000
set_option maxHeartbeats 2000000
/-! Mp2: expressions. dE, dT, dA: a plain function of slots and store as a reading. -/
namespace Mp
open PySem PySem.Spec PyProof.Rows L2

/-- what is wanted behind a result -/
def KO {α β : Type} (Γ : Cfg) (rel : List Addr → Hp → α → β → Prop) (μ : List Addr) (H : Hp) (W : XK) (r : Res α) (Q : β → Hp → Prop) : Prop := match r with
  | .ok d st' => ∀ μ' H' v, Ext μ H μ' H' → RS Γ μ' H' st' → rel μ' H' d v → Q v H'
  | .exc x st' => ∀ μ' H' c d, Ext μ H μ' H' → RS Γ μ' H' st' → RX Γ μ' H' x c d → W c d H'
  | .bad => False
def rB : List Addr → Hp → Bool → Bool → Prop := fun _ _ a b => a = b
def dE (Γ : Cfg) (W : WX) (m : M) : TE := fun σ H Q => ∃ μ e st, RS Γ μ H st ∧ RE Γ μ H e σ ∧ KO Γ (RD Γ) μ H (fun c d H' => W c d σ H') (m e st) Q
def dT (Γ : Cfg) (W : WX) (m : MT) : TT := fun σ H Q => ∃ μ e st, RS Γ μ H st ∧ RE Γ μ H e σ ∧ KO Γ rB μ H (fun c d H' => W c d σ H') (m e st) Q
def dA (Γ : Cfg) (W : WX) (m : MA) : TA := fun σ H Q => ∃ μ e st, RS Γ μ H st ∧ RE Γ μ H e σ ∧ KO Γ (RDs Γ) μ H (fun c d H' => W c d σ H') (m e st) Q

section
variable {α β γ δ : Type} {Γ : Cfg} {μ μ' : List Addr} {H H' : Hp} {W : XK} {rel : List Addr → Hp → α → β → Prop} {rel' : List Addr → Hp → γ → δ → Prop} {Q : β → Hp → Prop}
theorem KO.mono {r : Res α} (e : Ext μ H μ' H') (h : KO Γ rel μ H W r Q) : KO Γ rel μ' H' W r Q := by
  cases r with
  | ok d st => exact fun μ1 H1 v e1 => h μ1 H1 v (e.trans e1)
  | exc x st => exact fun μ1 H1 c d e1 => h μ1 H1 c d (e.trans e1)
  | bad => exact h
theorem KO.bind {r : Res γ} {f : γ → Sto → Res α} {Q1 : δ → Hp → Prop} (h : KO Γ rel μ H W (r.bind f) Q)
    (k : ∀ d st μ1 H1 v, r = .ok d st → Ext μ H μ1 H1 → RS Γ μ1 H1 st → rel' μ1 H1 d v → KO Γ rel μ1 H1 W (f d st) Q → Q1 v H1) : KO Γ rel' μ H W r Q1 := by
  cases r with
  | ok d st => exact fun μ1 H1 v e1 r1 r2 => k d st μ1 H1 v rfl e1 r1 r2 (KO.mono e1 h)
  | exc x st => exact h
  | bad => exact h
/-- a value at hand -/
theorem KO.ok {d : α} {st : Sto} {v : β} (h : KO Γ rel μ H W (.ok d st) Q) (r : RS Γ μ H st) (rv : rel μ H d v) : Q v H := h μ H v (Ext.refl μ H) r rv
end

section
variable {X : Cx} {Γ : Cfg} {W : WX} {a b : Expr} {ma mb : M} {pos : Pos}
theorem pe_imp {e : Expr} {t t' : TE} (h : PE X e t) (i : ∀ σ H Q, t' σ H Q → t σ H Q) : PE X e t' := ⟨fun pins s σ H Q I q => h.run pins s σ H Q I (i σ H Q q)⟩
theorem pt_imp {e : Expr} {t t' : TT} (h : PT X e t) (i : ∀ σ H Q, t' σ H Q → t σ H Q) : PT X e t' := ⟨fun pins s σ H Q I q => h.run pins s σ H Q I (i σ H Q q)⟩
theorem pw_imp {e : Expr} {t t' : TT} (h : PW X e t) (i : ∀ σ H Q, t' σ H Q → t σ H Q) : PW X e t' := ⟨fun wh pins s σ H Q I q => h.run wh pins s σ H Q I (i σ H Q q)⟩
theorem pa_imp {e : List Expr} {t t' : TA} (h : PA X e t) (i : ∀ σ H Q, t' σ H Q → t σ H Q) : PA X e t' := ⟨fun p pins s σ H Q I q => h.run p pins s σ H Q I (i σ H Q q)⟩

/-! ### names, constants -/
def mVar (i : Nat) : M := fun e st => match e[i]? with
  | some (some d) => .ok d st
  | _ => .bad
def mLit (d : D) : M := fun _ st => .ok d st
theorem m_var (i : Nat) {x : Str} (hN : X.N[i]? = some x := by rfl) (hv : Vis X.env.scope x := by first | exact Or.inl rfl | exact Or.inr (Or.inl rfl) | exact Or.inr (Or.inr rfl)) (hd : (x == ("__debug__" : Str)) = false := by decide)
    (hcd : (x == ("__classdict__" : Str)) = false := by decide) : PE X (.Name x pos) (dE Γ W (mVar i)) := by
  refine pe_imp (pe_var hN hv hd hcd) ?_
  rintro σ H Q ⟨μ, e, st, r, re, k⟩
  unfold mVar at k
  split at k
  · rename_i d hd
    obtain ⟨v, h1, h2⟩ := re.l.get hd
    exact ⟨v, h1, k.ok r h2⟩
  · exact False.elim k
theorem m_lit {d : D} {v : V} {e : Expr} (h : PE X e (tC v)) (hr : ∀ μ H, RD Γ μ H d v) : PE X e (dE Γ W (mLit d)) := by
  refine pe_imp h ?_
  rintro σ H Q ⟨μ, e, st, r, re, k⟩
  exact k.ok r (hr μ H)
theorem m_int {i : Int} {j} : PE X (.Constant (.int i) j pos) (dE Γ W (mLit (.int i))) := m_lit pe_int fun _ _ => by unfold RD; rfl
theorem m_bl {b : Bool} {j} : PE X (.Constant (.bool b) j pos) (dE Γ W (mLit (.bl b))) := m_lit pe_bl fun _ _ => by unfold RD; rfl
theorem m_non {j} : PE X (.Constant .none j pos) (dE Γ W (mLit .non)) := m_lit pe_non fun _ _ => by unfold RD; rfl
theorem m_str {x : Str} {j} (h : strOk x = true := by decide +kernel) : PE X (.Constant (.str x) j pos) (dE Γ W (mLit (.str x))) := m_lit pe_str fun _ _ => by unfold RD; exact ⟨rfl, h⟩
/-- a class, a function of the text as a value -/
theorem m_glob {k : Nat} {x : Str} {u : Value} (hg : Gl X x) (hm : X.mg x = some u) (r : RelV (Γ.cv k) u) (hd : (x == ("__debug__" : Str)) = false := by decide) : PE X (.Name x pos) (dE Γ W (mLit (.cst k))) :=
  m_lit (pe_glob hg hm r hd) fun _ _ => by unfold RD; rfl
theorem m_bltn {k : Nat} {x : Str} {u : Value} (hg : Gl X x) (hm : X.mg x = none) (hv : bootBuiltins x = some u) (r : RelV (Γ.cv k) u) (hn : x ≠ "__name__" := by decide) (hd : (x == ("__debug__" : Str)) = false := by decide) : PE X (.Name x pos) (dE Γ W (mLit (.cst k))) :=
  m_lit (pe_bltn hg hm hv r hn hd) fun _ _ => by unfold RD; rfl
/-- a constant of the module: an int, a text -/
theorem m_globI {i : Int} {x : Str} {u : Value} (hg : Gl X x) (hm : X.mg x = some u) (r : RelV (.int i) u) (hd : (x == ("__debug__" : Str)) = false := by decide) : PE X (.Name x pos) (dE Γ W (mLit (.int i))) :=
  m_lit (pe_glob hg hm r hd) fun _ _ => by unfold RD; rfl
theorem m_globS {z : Str} {x : Str} {u : Value} (hg : Gl X x) (hm : X.mg x = some u) (r : RelV (.str z) u) (h : strOk z = true) (hd : (x == ("__debug__" : Str)) = false := by decide) : PE X (.Name x pos) (dE Γ W (mLit (.str z))) :=
  m_lit (pe_glob hg hm r hd) fun _ _ => by unfold RD; exact ⟨rfl, h⟩

/-! ### arguments, displays -/
def mNil : MA := fun _ st => .ok [] st
def mCons (m : M) (r : MA) : MA := fun e st => (m e st).bind fun x s1 => (r e s1).bind fun l s2 => .ok (x :: l) s2
theorem ma_nil : PA X [] (dA Γ W mNil) := by
  refine pa_imp pa_nil ?_
  rintro σ H Q ⟨μ, e, st, r, re, k⟩
  exact k.ok r RDs.nil
theorem ma_cons {e : Expr} {es : List Expr} {m : M} {r : MA} (ha : PE X e (dE Γ W m)) (hr : PA X es (dA Γ W r)) (hs : starEach (e :: es) X.env = (false, eval e X.env) :: starEach es X.env := by rfl) : PA X (e :: es) (dA Γ W (mCons m r)) := by
  refine pa_imp (pa_cons ha hr hs) ?_
  rintro σ H Q ⟨μ, e, st, r, re, k⟩
  refine ⟨μ, e, st, r, re, KO.bind k fun x s1 μ1 H1 v _ e1 r1 q1 k1 => ?_⟩
  refine ⟨μ1, e, s1, r1, re.mono e1, KO.bind k1 fun l s2 μ2 H2 vs _ e2 r2 q2 k2 => ?_⟩
  exact k2.ok r2 (RDs.cons (q1.mono e2) q2)
def szOk (n : Nat) : Bool := decide (n ≤ sizeLine)
theorem szOk_le {n : Nat} (h : szOk n = true) : n ≤ sizeLine := of_decide_eq_true h
def mTup (r : MA) : M := fun e st => (r e st).bind fun l s1 => if szOk l.length then .ok (.tup l) s1 else .bad
def mLst (r : MA) : M := fun e st => (r e st).bind fun l s1 => if szOk l.length then .ok (.loc s1.length) (s1 ++ [.lst l]) else .bad
theorem RD.tupNew {μ : List Addr} {H : Hp} {l : List D} {vs : List V} {p : Addr} (h : RDs Γ μ H l vs) (hp : H p = none) : RD Γ μ (upd H p (.tup vs)) (.tup l) (.ref p) := by
  unfold RD
  exact ⟨p, vs, rfl, upd_same, h.mono (Ext.new0 hp)⟩
/-- what a new tuple leaves -/
theorem KO.tup {μ : List Addr} {H : Hp} {Wk : XK} {l : List D} {vs : List V} {st : Sto} {Q : VK} (k : KO Γ (RD Γ) μ H Wk (.ok (.tup l) st) Q) (r : RS Γ μ H st) (h : RDs Γ μ H l vs) (p : Addr) (hp : H p = none) : Q (.ref p) (upd H p (.tup vs)) :=
  k μ _ _ (Ext.new0 hp) (r.new0 hp) (RD.tupNew h hp)
theorem RS.lstNew {μ : List Addr} {H : Hp} {l : List D} {vs : List V} {st : Sto} {p : Addr} (r : RS Γ μ H st) (h : RDs Γ μ H l vs) (hp : H p = none) : RS Γ (μ ++ [p]) (upd H p (.lst vs)) (st ++ [.lst l]) :=
  r.new hp ⟨vs, upd_same, h.mono (Ext.new hp)⟩
theorem RD.locNew {μ : List Addr} {H : Hp} {st : Sto} {p : Addr} {H' : Hp} (r : RS Γ μ H st) : RD Γ (μ ++ [p]) H' (.loc st.length) (.ref p) := by
  unfold RD
  exact ⟨p, by rw [← r.len]; simp, rfl⟩
/-- what a new list leaves -/
theorem KO.lst {μ : List Addr} {H : Hp} {Wk : XK} {l : List D} {vs : List V} {st : Sto} {Q : VK} (k : KO Γ (RD Γ) μ H Wk (.ok (.loc st.length) (st ++ [.lst l])) Q) (r : RS Γ μ H st) (h : RDs Γ μ H l vs) (p : Addr) (hp : H p = none) : Q (.ref p) (upd H p (.lst vs)) :=
  k _ _ _ (Ext.new hp) (r.lstNew h hp) (RD.locNew r)
theorem m_tup {es : List Expr} {x1} {r : MA} (h : PA X es (dA Γ W r)) : PE X (.Tuple es x1 pos) (dE Γ W (mTup r)) := by
  refine pe_imp (pe_tup h) ?_
  rintro σ H Q ⟨μ, e, st, r, re, k⟩
  refine ⟨μ, e, st, r, re, KO.bind k fun l s1 μ1 H1 vs _ e1 r1 q1 k1 => ?_⟩
  split at k1
  · rename_i hz
    exact ⟨by rw [q1.length]; exact szOk_le hz, fun p hp => k1.tup r1 q1 p hp⟩
  · exact k1.elim
theorem m_lst {es : List Expr} {r : MA} (h : PA X es (dA Γ W r)) : PE X (.List es pos) (dE Γ W (mLst r)) := by
  refine pe_imp (pe_lst h) ?_
  rintro σ H Q ⟨μ, e, st, r, re, k⟩
  refine ⟨μ, e, st, r, re, KO.bind k fun l s1 μ1 H1 vs _ e1 r1 q1 k1 => ?_⟩
  split at k1
  · rename_i hz
    exact ⟨by rw [q1.length]; exact szOk_le hz, fun p hp => k1.lst r1 q1 p hp⟩
  · exact k1.elim

/-! ### operators by values -/
def m2 (f : D → D → Sto → Res D) (ma mb : M) : M := fun e st => (ma e st).bind fun x s1 => (mb e s1).bind fun y s2 => f x y s2
/-- the rule r does on values what f does on data -/
def OpD (Γ : Cfg) (r : R2) (f : D → D → Sto → Res D) : Prop := ∀ (μ : List Addr) (H : Hp) (st : Sto) (x y : D) (v u : V) (Q : VK) (Wk : XK), RS Γ μ H st → RD Γ μ H x v → RD Γ μ H y u → KO Γ (RD Γ) μ H Wk (f x y st) Q → r v u H Q
theorem op2 {r : R2} {f : D → D → Sto → Res D} (hd : OpD Γ r f) {σ : L2.St} {H : Hp} {Q : VK} (h : dE Γ W (m2 f ma mb) σ H Q) : tOp r (dE Γ W ma) (dE Γ W mb) σ H Q := by
  obtain ⟨μ, e, st, r, re, k⟩ := h
  refine ⟨μ, e, st, r, re, KO.bind k fun x s1 μ1 H1 v _ e1 r1 q1 k1 => ?_⟩
  refine ⟨μ1, e, s1, r1, re.mono e1, KO.bind k1 fun y s2 μ2 H2 u _ e2 r2 q2 k2 => ?_⟩
  exact hd μ2 H2 s2 x y v u Q _ r2 (q1.mono e2) q2 k2
theorem m_op {op : Operator} {r : R2} {f : D → D → Sto → Res D} (ho : OpR X (binaryOp op) r) (hd : OpD Γ r f) (ha : PE X a (dE Γ W ma)) (hb : PE X b (dE Γ W mb)) : PE X (.BinOp a op b pos) (dE Γ W (m2 f ma mb)) :=
  pe_imp (pe_op ho ha hb) fun _ _ _ h => op2 hd h
theorem m_cmp {op : CmpOp} {r : R2} {f : D → D → Sto → Res D} (ho : OpR X (compareOp op) r) (hd : OpD Γ r f) (ha : PE X a (dE Γ W ma)) (hb : PE X b (dE Γ W mb)) (hm : behindInMarks op b = false) : PE X (.Compare a [op] [b] pos) (dE Γ W (m2 f ma mb)) :=
  pe_imp (pe_cmpR ho ha hb hm) fun _ _ _ h => op2 hd h
/-- a value that is a bool, as a test -/
def mB (m : M) : MT := fun e st => (m e st).bind fun d s1 => match d with
  | .bl b => .ok b s1
  | _ => .bad
theorem test_of {m : M} {σ : L2.St} {H : Hp} {Q : Bool → Hp → Prop} (h : dT Γ W (mB m) σ H Q) : dE Γ W m σ H fun x H' => ∃ k, x = .bl k ∧ Q k H' := by
  obtain ⟨μ, e, st, r, re, k⟩ := h
  refine ⟨μ, e, st, r, re, KO.bind k fun x s1 μ1 H1 v _ e1 r1 q1 k1 => ?_⟩
  cases x with
  | bl b =>
    unfold RD at q1
    subst q1
    exact ⟨b, rfl, k1.ok r1 rfl⟩
  | _ => exact False.elim k1
theorem mt_cmp {op : CmpOp} {r : R2} {f : D → D → Sto → Res D} (ho : OpR X (compareOp op) r) (hd : OpD Γ r f) (ha : PE X a (dE Γ W ma)) (hb : PE X b (dE Γ W mb)) (hm : behindInMarks op b = false) : PT X (.Compare a [op] [b] pos) (dT Γ W (mB (m2 f ma mb))) :=
  pt_imp (pt_cmpR ho ha hb hm) fun _ _ _ h => op2 (W := W) hd (test_of h) |> fun q => q
theorem mt_val {e : Expr} {m : M} (h : PE X e (dE Γ W m)) (he : ∀ whole, isTrue e X.env whole = (do let v ← whole; standAt e.pos; holding [v] (truthy v)) := by intro _; rfl) : PT X e (dT Γ W (mB m)) :=
  pt_imp (pt_val h he) fun _ _ _ h => test_of h
end
end Mp

set_option Elab.async false
set_option linter.all false
set_option maxRecDepth 100000
set_option maxHeartbeats 2000000
/-! Mp3: operators by values: arithmetic, ==, in, subscripts. -/
namespace Mp
open PySem PySem.Spec PyProof.Rows L2

/-! ### data as PyData: for == and in -/
mutual
def pyL (f : Nat → Option PyData) : D → Option PyData
  | .non => some .none
  | .bl b => some (.bool b)
  | .int i => some (.int i)
  | .str s => some (.str s)
  | .tup l => (pyLs f l).map .tuple
  | .wt l => (pyLs f l).map .tuple
  | .loc n => f n
  | .fz _ => none
  | .cst _ => none
def pyLs (f : Nat → Option PyData) : List D → Option (List PyData)
  | [] => some []
  | d :: l => match pyL f d, pyLs f l with
    | some a, some r => some (a :: r)
    | _, _ => none
end
def py (st : Sto) : Nat → D → Option PyData
  | 0, d => pyL (fun _ => none) d
  | k + 1, d => pyL (fun n => match st[n]? with
    | some (.lst l) => (pyLs (fun _ => none) l).map .list
    | _ => none) d
abbrev pyd (st : Sto) (d : D) : Option PyData := py st 1 d

section
variable {Γ : Cfg} {μ : List Addr} {H : Hp} {st : Sto}
mutual
theorem pyL_dp {f : Nat → Option PyData} (hf : ∀ n a pd, f n = some pd → μ[n]? = some a → Dp Γ.K H (.ref a) pd ∧ pd.canLay0 = true) : ∀ {d : D} {v : V} {pd : PyData}, RD Γ μ H d v → pyL f d = some pd → Dp Γ.K H v pd ∧ pd.canLay0 = true
  | .non, _, _, h, e => by unfold RD at h; unfold pyL at e; cases e; subst h; exact ⟨.non, rfl⟩
  | .bl b, _, _, h, e => by unfold RD at h; unfold pyL at e; cases e; subst h; exact ⟨.bl b, rfl⟩
  | .int b, _, _, h, e => by unfold RD at h; unfold pyL at e; cases e; subst h; exact ⟨.int b, rfl⟩
  | .str s, _, _, h, e => by unfold RD at h; unfold pyL at e; cases e; obtain ⟨rfl, h⟩ := h; exact ⟨.str s, h⟩
  | .tup l, _, _, h, e => by
    unfold RD at h
    unfold pyL at e
    obtain ⟨a, vs, rfl, h1, h2⟩ := h
    cases q : pyLs f l with
    | none => rw [q] at e; cases e
    | some ds =>
      rw [q] at e
      cases e
      obtain ⟨h3, h4⟩ := pyLs_dp hf h2 q
      exact ⟨.tup (.of h1) h3, h4⟩
  | .wt l, _, _, h, e => by
    unfold RD at h
    unfold pyL at e
    obtain ⟨a, vs, rfl, h1, h2⟩ := h
    cases q : pyLs f l with
    | none => rw [q] at e; cases e
    | some ds =>
      rw [q] at e
      cases e
      obtain ⟨h3, h4⟩ := pyLs_dp hf h2 q
      exact ⟨.tup h1 h3, h4⟩
  | .fz l, _, _, h, e => by unfold pyL at e; cases e
  | .loc n, _, _, h, e => by
    unfold RD at h
    unfold pyL at e
    obtain ⟨a, h1, rfl⟩ := h
    exact hf n a _ e h1
  | .cst k, _, _, h, e => by unfold pyL at e; cases e
theorem pyLs_dp {f : Nat → Option PyData} (hf : ∀ n a pd, f n = some pd → μ[n]? = some a → Dp Γ.K H (.ref a) pd ∧ pd.canLay0 = true) : ∀ {l : List D} {vs : List V} {ps : List PyData}, RDs Γ μ H l vs → pyLs f l = some ps → DpAll Γ.K H vs ps ∧ PyData.canLayAll0 ps = true
  | [], _, _, h, e => by unfold pyLs at e; cases e; cases h.unnil; exact ⟨.nil, rfl⟩
  | d :: l, _, _, h, e => by
    obtain ⟨v, r, rfl, h1, h2⟩ := h.uncons
    unfold pyLs at e
    split at e
    · rename_i a q e1 e2
      cases e
      obtain ⟨h3, h4⟩ := pyL_dp hf h1 e1
      obtain ⟨h5, h6⟩ := pyLs_dp hf h2 e2
      exact ⟨.cons h3 h5, by show (a.canLay0 && PyData.canLayAll0 q) = true; rw [h4, h6] <;> rfl⟩
    · cases e
end
theorem py_dp {d : D} {v : V} {pd : PyData} (r : RS Γ μ H st) (h : RD Γ μ H d v) (e : pyd st d = some pd) : Dp Γ.K H v pd ∧ pd.canLay0 = true := by
  refine pyL_dp (fun n a p hf hm => ?_) h e
  obtain ⟨o, h1, h2⟩ := r.mu_some hm
  rw [h1] at hf
  cases o with
  | lst l =>
    obtain ⟨vs, h3, h4⟩ := h2
    have hf' : (pyLs (fun _ => none) l).map PyData.list = some p := hf
    obtain ⟨ds, q, rfl⟩ := Option.map_eq_some_iff.mp hf'
    obtain ⟨h5, h6⟩ := pyLs_dp (Γ := Γ) (μ := μ) (H := H) (f := fun _ => none) (fun n a p hf _ => by cases hf) h4 q
    exact ⟨.lst (.of h3) h5, h6⟩
  | _ => cases hf
end

/-! ### == and != -/
def rEqG (K : PySem.W.Frag) (neg : Bool) : R2 := fun x y H Q => ∃ d e, Dp K H x d ∧ Dp K H y e ∧ d.canLay0 = true ∧ e.canLay0 = true ∧ min d.depth e.depth ≤ 1000 ∧ Q (.bl (neg ^^ PyData.eqv d e)) H
section
variable {X : Cx} {Γ : Cfg}
theorem op_eqG (hu : X.A.units + 1100 < cLine) : OpR X (compareOp .Eq) (rEqG X.K false) := by
  intro pins s σ H x y v u Q I rx ry h
  obtain ⟨d, e, hd, he, sd, se, hm, q⟩ := h
  obtain ⟨as, r1⟩ := Dp.reads I d x v hd rx
  obtain ⟨bs, r2⟩ := Dp.reads I e y u he ry
  exact SeqAt.compareEq_reads r1 r2 sd se (by omega) ⟨.bl _, H, I, rfl, by rw [Bool.false_xor] at q; exact q⟩
theorem op_neG (hu : X.A.units + 1100 < cLine) : OpR X (compareOp .NotEq) (rEqG X.K true) := by
  intro pins s σ H x y v u Q I rx ry h
  obtain ⟨d, e, hd, he, sd, se, hm, q⟩ := h
  obtain ⟨as, r1⟩ := Dp.reads I d x v hd rx
  obtain ⟨bs, r2⟩ := Dp.reads I e y u he ry
  exact SeqAt.compareNe_reads r1 r2 sd se (by omega) ⟨.bl _, H, I, rfl, by rw [Bool.true_xor] at q; exact q⟩
def eqF (neg : Bool) (x y : D) (st : Sto) : Res D := match pyd st x, pyd st y with
  | some a, some b => if min a.depth b.depth ≤ 1000 then .ok (.bl (neg ^^ PyData.eqv a b)) st else .bad
  | _, _ => .bad
theorem od_eq {neg : Bool} : OpD Γ (rEqG Γ.K neg) (eqF neg) := by
  intro μ H st x y v u Q Wk r rx ry k
  unfold eqF at k
  split at k
  · rename_i a b e1 e2
    split at k
    · rename_i hd
      obtain ⟨h1, h2⟩ := py_dp r rx e1
      obtain ⟨h3, h4⟩ := py_dp r ry e2
      exact ⟨a, b, h1, h3, h2, h4, hd, k.ok r (by unfold RD; rfl)⟩
    · exact k.elim
  · exact k.elim

/-! ### in, not in -/
def rInG (K : PySem.W.Frag) (neg : Bool) : R2 := fun x y H Q => ∃ d ds, Dp K H x d ∧ (Dp K H y (.list ds) ∨ Dp K H y (.tuple ds)) ∧ d.canLay0 = true ∧ PyData.canLayAll0 ds = true ∧ min (PyData.depthAll ds) d.depth ≤ 1000 ∧ Q (.bl (neg ^^ ds.any fun z => PyData.eqv z d)) H
theorem op_inG (hu : X.A.units + 1100 < cLine) : OpR X (compareOp .In) (rInG X.K false) := by
  intro pins s σ H x y v u Q I rx ry h
  obtain ⟨d, ds, hd, he, sd, se, hm, q⟩ := h
  obtain ⟨as, r1⟩ := Dp.reads I d x v hd rx
  rw [Bool.false_xor] at q
  rcases he with he | he
  · obtain ⟨bs, r2⟩ := Dp.reads I (.list ds) y u he ry
    exact SeqAt.in_list_reads r2 r1 se sd (by omega) ⟨.bl _, H, I, rfl, q⟩
  · obtain ⟨bs, r2⟩ := Dp.reads I (.tuple ds) y u he ry
    exact SeqAt.in_tuple_reads r2 r1 se sd (by omega) ⟨.bl _, H, I, rfl, q⟩
theorem op_ninG (hu : X.A.units + 1100 < cLine) : OpR X (compareOp .NotIn) (rInG X.K true) := by
  intro pins s σ H x y v u Q I rx ry h
  obtain ⟨d, ds, hd, he, sd, se, hm, q⟩ := h
  obtain ⟨as, r1⟩ := Dp.reads I d x v hd rx
  rw [Bool.true_xor] at q
  rcases he with he | he
  · obtain ⟨bs, r2⟩ := Dp.reads I (.list ds) y u he ry
    exact SeqAt.notIn_list_reads r2 r1 se sd (by omega) ⟨.bl _, H, I, rfl, q⟩
  · obtain ⟨bs, r2⟩ := Dp.reads I (.tuple ds) y u he ry
    exact SeqAt.notIn_tuple_reads r2 r1 se sd (by omega) ⟨.bl _, H, I, rfl, q⟩
/-- in a dict, by values -/
def rInK (neg : Bool) : R2 := fun y x H Q => ∃ a o, x = .ref a ∧ DGet H a y o ∧ Q (.bl (neg ^^ o.isSome)) H
theorem op_inK (hu : X.A.units + 1100 < cLine) : OpR X (compareOp .In) (rInK false) := by
  intro pins s σ H y x v u Q I ry rx h
  obtain ⟨a, o, rfl, g, q⟩ := h
  cases rx
  rw [Bool.false_xor] at q
  exact d_in (by omega) I g ry fun s' I' => ⟨.bl _, H, I', rfl, q⟩
theorem op_ninK (hu : X.A.units + 1100 < cLine) : OpR X (compareOp .NotIn) (rInK true) := by
  intro pins s σ H y x v u Q I ry rx h
  obtain ⟨a, o, rfl, g, q⟩ := h
  cases rx
  rw [Bool.true_xor] at q
  exact d_notIn (by omega) I g ry fun s' I' => ⟨.bl _, H, I', rfl, q⟩
/-- a text in a text -/
def rInS (neg : Bool) : R2 := fun x y H Q => ∃ i j, x = .str i ∧ y = .str j ∧ Q (.bl (neg ^^ !(Builtin.Str.occurrences j i 0 j.length 1).isEmpty)) H
theorem op_inS : OpR X (compareOp .In) (rInS false) := by
  intro pins s σ H x y v u Q I rx ry h
  obtain ⟨i, j, e1, e2, q⟩ := h
  exact op_in_str pins s σ H x y v u Q I rx ry ⟨i, j, e1, e2, by rw [Bool.false_xor] at q; exact q⟩
theorem op_ninS : OpR X (compareOp .NotIn) (rInS true) := by
  intro pins s σ H x y v u Q I rx ry h
  obtain ⟨i, j, e1, e2, q⟩ := h
  exact op_notin_str pins s σ H x y v u Q I rx ry ⟨i, j, e1, e2, by rw [Bool.true_xor] at q; exact q⟩
end

/-! ### keys and entries -/
def key1 : D → Option Key
  | .int i => some (.inl i)
  | .str s => some (.inr s)
  | _ => none
def keyL : List D → Option (List Key)
  | [] => some []
  | d :: l => match key1 d, keyL l with
    | some k, some r => some (k :: r)
    | _, _ => none
def lookD {κ : Type} [DecidableEq κ] (l : List (κ × D)) (k : κ) : Option D := (l.find? fun p => decide (p.1 = k)).map (·.2)
def putD {κ : Type} [DecidableEq κ] (l : List (κ × D)) (k : κ) (d : D) : List (κ × D) := if (l.any fun p => decide (p.1 = k)) then l.map (fun p => if p.1 = k then (p.1, d) else p) else l ++ [(k, d)]
def dropD {κ : Type} [DecidableEq κ] (l : List (κ × D)) (k : κ) : List (κ × D) := l.filter fun p => decide (p.1 ≠ k)
/-- what a dict holds at a key: none where the key is of another kind -/
def dictAt (st : Sto) (x y : D) : Option (Option D) := match x with
  | .loc n => match st[n]? with
    | some (.dK l) => (key1 y).map (lookD l)
    | some (.dT l) => match y with
      | .tup ks => (keyL ks).map (lookD l)
      | _ => none
    | _ => none
  | _ => none
section
variable {κ : Type} [DecidableEq κ] {Γ : Cfg} {μ : List Addr} {H : Hp} {st : Sto}
theorem RKs.look : ∀ {l : List (κ × D)} {vs : List (κ × V)} (k : κ), RKs Γ μ H l vs → (∀ d, lookD l k = some d → ∃ v, valV vs k = some v ∧ RD Γ μ H d v) ∧ (lookD l k = none → valV vs k = none)
  | [], _, k, h => by cases (show _ = [] from h); exact ⟨(fun d e => by cases e), fun _ => rfl⟩
  | p :: l, _, k, h => by
    obtain ⟨v, r, rfl, h1, h2⟩ := h
    obtain ⟨h3, h4⟩ := RKs.look k h2
    by_cases e : p.1 = k
    · refine ⟨fun d hd => ⟨v, ?_, ?_⟩, fun hd => ?_⟩
      · exact valV_pos e
      · simp [lookD, List.find?_cons, e] at hd; subst hd; exact h1
      · simp [lookD, List.find?_cons, e] at hd
    · have e1 : lookD (p :: l) k = lookD l k := by simp [lookD, List.find?_cons, e]
      rw [e1, valV_neg e]
      exact ⟨h3, h4⟩
theorem RKs.some_iff {l : List (κ × D)} {vs : List (κ × V)} {k : κ} (h : RKs Γ μ H l vs) : (valV vs k).isSome = (lookD l k).isSome := by
  obtain ⟨h1, h2⟩ := h.look k
  cases e : lookD l k with
  | none => rw [h2 e] <;> rfl
  | some d => obtain ⟨v, h3, _⟩ := h1 d e; rw [h3] <;> rfl
theorem RKs.length : ∀ {l : List (κ × D)} {vs : List (κ × V)}, RKs Γ μ H l vs → vs.length = l.length
  | [], _, h => by cases (show _ = [] from h); rfl
  | p :: l, _, h => by
    obtain ⟨v, r, rfl, h1, h2⟩ := h
    simp [RKs.length h2]
theorem RKs.any : ∀ {l : List (κ × D)} {vs : List (κ × V)} (k : κ), RKs Γ μ H l vs → (vs.any fun p => decide (p.1 = k)) = l.any fun p => decide (p.1 = k)
  | [], _, k, h => by cases (show _ = [] from h); rfl
  | p :: l, _, k, h => by
    obtain ⟨v, r, rfl, h1, h2⟩ := h
    simp [RKs.any k h2]
theorem RKs.repl : ∀ {l : List (κ × D)} {vs : List (κ × V)} {d : D} {v : V} (k : κ), RKs Γ μ H l vs → RD Γ μ H d v → RKs Γ μ H (l.map fun p => if p.1 = k then (p.1, d) else p) (vs.map fun p => if p.1 = k then (p.1, v) else p)
  | [], _, _, _, k, h, _ => by cases (show _ = [] from h); exact rfl
  | p :: l, _, d, v, k, h, q => by
    obtain ⟨u, r, rfl, h1, h2⟩ := h
    by_cases e : p.1 = k
    · simp only [List.map_cons, if_pos e]
      exact ⟨v, _, rfl, q, RKs.repl k h2 q⟩
    · simp only [List.map_cons, if_neg e]
      exact ⟨u, _, rfl, h1, RKs.repl k h2 q⟩
theorem RKs.snoc : ∀ {l : List (κ × D)} {vs : List (κ × V)} {d : D} {v : V} (k : κ), RKs Γ μ H l vs → RD Γ μ H d v → RKs Γ μ H (l ++ [(k, d)]) (vs ++ [(k, v)])
  | [], _, _, _, k, h, q => by cases (show _ = [] from h); exact ⟨_, _, rfl, q, rfl⟩
  | p :: l, _, d, v, k, h, q => by
    obtain ⟨u, r, rfl, h1, h2⟩ := h
    exact ⟨u, _, rfl, h1, RKs.snoc k h2 q⟩
theorem RKs.put {l : List (κ × D)} {vs : List (κ × V)} {d : D} {v : V} (k : κ) (h : RKs Γ μ H l vs) (q : RD Γ μ H d v) : RKs Γ μ H (putD l k d) (putK vs k v) := by
  unfold putD putK
  rw [h.any k]
  split
  · exact h.repl k q
  · exact h.snoc k q
theorem RKs.dropk : ∀ {l : List (κ × D)} {vs : List (κ × V)} (k : κ), RKs Γ μ H l vs → RKs Γ μ H (dropD l k) (dropK vs k)
  | [], _, k, h => by cases (show _ = [] from h); exact rfl
  | p :: l, _, k, h => by
    obtain ⟨v, r, rfl, h1, h2⟩ := h
    unfold dropD dropK
    by_cases e : p.1 = k
    · simp only [List.filter_cons, e, ne_eq, not_true_eq_false, decide_false, Bool.false_eq_true, if_false]
      exact RKs.dropk k h2
    · simp only [List.filter_cons, e, ne_eq, not_false_eq_true, decide_true, if_true]
      exact ⟨v, _, rfl, h1, RKs.dropk k h2⟩
theorem key1_v {y : D} {u : V} {k : Key} (h : RD Γ μ H y u) (e : key1 y = some k) : u = kV k := by
  cases y with
  | int i => unfold RD at h; cases e; exact h
  | str s => unfold RD at h; cases e; exact h.1
  | _ => cases e
theorem keyL_v : ∀ {l : List D} {us : List V} {ks : List Key}, RDs Γ μ H l us → keyL l = some ks → us = ks.map kV
  | [], _, _, h, e => by cases e; exact h.unnil
  | d :: l, _, _, h, e => by
    obtain ⟨v, r, rfl, h1, h2⟩ := h.uncons
    unfold keyL at e
    split at e
    · rename_i k q e1 e2
      cases e
      rw [key1_v h1 e1, keyL_v h2 e2] <;> rfl
    · cases e
/-- the dict's answer, by values -/
theorem dictAt_get {x y : D} {v u : V} {o : Option D} (r : RS Γ μ H st) (hx : RD Γ μ H x v) (hy : RD Γ μ H y u) (e : dictAt st x y = some o) :
    ∃ a ov, v = .ref a ∧ DGet H a u ov ∧ (∀ d, o = some d → ∃ w, ov = some w ∧ RD Γ μ H d w) ∧ (o = none → ov = none) := by
  unfold dictAt at e
  split at e
  · rename_i n
    unfold RD at hx
    obtain ⟨a, h1, rfl⟩ := hx
    obtain ⟨ob, h2, h3⟩ := r.mu_some h1
    rw [h2] at e
    split at e
    · rename_i l e1
      cases e1
      obtain ⟨vs, h4, h5⟩ := h3
      cases ek : key1 y with
      | none => rw [ek] at e; cases e
      | some k =>
        rw [ek] at e
        cases e
        obtain ⟨h6, h7⟩ := h5.look k
        rw [key1_v hy ek]
        exact ⟨a, _, rfl, DGet.k h4, h6, h7⟩
    · rename_i l e1
      cases e1
      obtain ⟨vs, h4, h5⟩ := h3
      split at e
      · rename_i ks
        unfold RD at hy
        obtain ⟨b, us, rfl, h8, h9⟩ := hy
        cases ek : keyL ks with
        | none => rw [ek] at e; cases e
        | some k =>
          rw [ek] at e
          cases e
          obtain ⟨h6, h7⟩ := h5.look k
          rw [keyL_v h9 ek] at h8
          exact ⟨a, _, rfl, DGet.t h4 h8, h6, h7⟩
      · cases e
    · cases e
  · cases e
end

/-! ### in: all kinds -/
def rInA (K : PySem.W.Frag) (neg : Bool) : R2 := fun x y H Q => (rInG K neg x y H Q ∨ rInK neg x y H Q) ∨ rInS neg x y H Q
def inF (neg : Bool) (x y : D) (st : Sto) : Res D := match dictAt st y x with
  | some o => .ok (.bl (neg ^^ o.isSome)) st
  | none => match x, y with
    | .str i, .str j => .ok (.bl (neg ^^ !(Builtin.Str.occurrences j i 0 j.length 1).isEmpty)) st
    | _, _ => match pyd st x, pyd st y with
      | some d, some (.list ds) => if min (PyData.depthAll ds) d.depth ≤ 1000 then .ok (.bl (neg ^^ ds.any fun z => PyData.eqv z d)) st else .bad
      | some d, some (.tuple ds) => if min (PyData.depthAll ds) d.depth ≤ 1000 then .ok (.bl (neg ^^ ds.any fun z => PyData.eqv z d)) st else .bad
      | _, _ => .bad
section
variable {X : Cx} {Γ : Cfg}
theorem op_inA (hu : X.A.units + 1100 < cLine) : OpR X (compareOp .In) (rInA X.K false) := ((op_inG hu).or (op_inK hu)).or op_inS
theorem op_ninA (hu : X.A.units + 1100 < cLine) : OpR X (compareOp .NotIn) (rInA X.K true) := ((op_ninG hu).or (op_ninK hu)).or op_ninS
theorem od_in {neg : Bool} : OpD Γ (rInA Γ.K neg) (inF neg) := by
  intro μ H st x y v u Q Wk r rx ry k
  unfold inF at k
  split at k
  · rename_i o eo
    obtain ⟨a, ov, rfl, g, h1, h2⟩ := dictAt_get r ry rx eo
    refine .inl (.inr ⟨a, ov, rfl, g, ?_⟩)
    have e : ov.isSome = o.isSome := by
      cases o with
      | none => rw [h2 rfl] <;> rfl
      | some d => obtain ⟨w, h3, _⟩ := h1 d rfl; rw [h3] <;> rfl
    rw [e]
    exact k.ok r (by unfold RD; rfl)
  · split at k
    · rename_i i j _
      unfold RD at rx ry
      exact .inr ⟨i, j, rx.1, ry.1, k.ok r (by unfold RD; rfl)⟩
    · split at k
      · rename_i d ds e1 e2
        split at k
        · rename_i hd
          obtain ⟨h1, h2⟩ := py_dp r rx e1
          obtain ⟨h3, h4⟩ := py_dp r ry e2
          exact .inl (.inl ⟨d, ds, h1, .inl h3, h2, h4, hd, k.ok r (by unfold RD; rfl)⟩)
        · exact k.elim
      · rename_i d ds e1 e2
        split at k
        · rename_i hd
          obtain ⟨h1, h2⟩ := py_dp r rx e1
          obtain ⟨h3, h4⟩ := py_dp r ry e2
          exact .inl (.inl ⟨d, ds, h1, .inr h3, h2, h4, hd, k.ok r (by unfold RD; rfl)⟩)
        · exact k.elim
      · exact k.elim

/-! ### None, and the identity of bools -/
def rIsA (neg : Bool) : R2 := fun x y H Q => (y = .non ∧ Q (.bl (neg ^^ decide (x = .non))) H) ∨ ∃ a b : Bool, x = .bl a ∧ y = .bl b ∧ Q (.bl (neg ^^ decide (a = b))) H
theorem op_isA : OpR X (compareOp .Is) (rIsA false) := by
  intro pins s σ H x y v u Q I rx ry h
  rcases h with ⟨e, q⟩ | ⟨a, b, e1, e2, q⟩
  · exact op_isN pins s σ H x y v u Q I rx ry ⟨e, by rw [Bool.false_xor] at q; exact q⟩
  · exact op_isBl pins s σ H x y v u Q I rx ry ⟨a, b, e1, e2, by rw [Bool.false_xor] at q; exact q⟩
theorem op_isNotA : OpR X (compareOp .IsNot) (rIsA true) := by
  intro pins s σ H x y v u Q I rx ry h
  rcases h with ⟨e, q⟩ | ⟨a, b, e1, e2, q⟩
  · exact op_notN pins s σ H x y v u Q I rx ry ⟨e, by rw [Bool.true_xor] at q; exact q⟩
  · exact op_notBl pins s σ H x y v u Q I rx ry ⟨a, b, e1, e2, by rw [Bool.true_xor] at q; exact q⟩
def isF (neg : Bool) (x y : D) (st : Sto) : Res D := match y with
  | .non => match x with
    | .non => .ok (.bl (neg ^^ true)) st
    | .cst _ => .bad
    | _ => .ok (.bl (neg ^^ false)) st
  | .bl b => match x with
    | .bl a => .ok (.bl (neg ^^ decide (a = b))) st
    | _ => .bad
  | _ => .bad
theorem od_is {neg : Bool} : OpD Γ (rIsA neg) (isF neg) := by
  intro μ H st x y v u Q Wk r rx ry k
  unfold isF at k
  split at k
  · unfold RD at ry
    subst ry
    left
    refine ⟨rfl, ?_⟩
    split at k
    · unfold RD at rx
      subst rx
      exact k.ok r (by unfold RD; simp)
    · exact k.elim
    · rename_i n1 n2
      have : v ≠ .non := by
        intro z
        subst z
        cases x with
        | non => exact n1 rfl
        | cst c => exact n2 c rfl
        | tup l => unfold RD at rx; obtain ⟨_, _, h, _⟩ := rx; cases h
        | wt l => unfold RD at rx; obtain ⟨_, _, h, _⟩ := rx; cases h
        | fz l => unfold RD at rx; obtain ⟨_, _, h, _⟩ := rx; cases h
        | loc l => unfold RD at rx; obtain ⟨_, _, h⟩ := rx; cases h
        | str s => unfold RD at rx; cases rx.1
        | bl b => unfold RD at rx; cases rx
        | int i => unfold RD at rx; cases rx
      rw [decide_eq_false this]
      exact k.ok r (by unfold RD; rfl)
  · rename_i b
    unfold RD at ry
    subst ry
    right
    split at k
    · rename_i a
      unfold RD at rx
      subst rx
      exact ⟨a, b, rfl, rfl, k.ok r (by unfold RD; rfl)⟩
    · exact k.elim
  · exact k.elim
end
end Mp

set_option Elab.async false
set_option linter.all false
set_option maxRecDepth 100000
set_option maxHeartbeats 2000000
/-! Mp4: arithmetic, order, subscripts, slices. -/
namespace Mp
open PySem PySem.Spec PyProof.Rows L2

/-! ### + - * // % ** -/
def intF (g : Int → Int → Int) (x y : D) (st : Sto) : Res D := match x, y with
  | .int i, .int j => .ok (.int (g i j)) st
  | _, _ => .bad
def intC (c : Int → Int → Bool) (g : Int → Int → Int) (x y : D) (st : Sto) : Res D := match x, y with
  | .int i, .int j => if c i j then .ok (.int (g i j)) st else .bad
  | _, _ => .bad
def ordF (g : Int → Int → Bool) (x y : D) (st : Sto) : Res D := match x, y with
  | .int i, .int j => .ok (.bl (g i j)) st
  | _, _ => .bad
section
variable {X : Cx} {Γ : Cfg}
theorem RD.int {μ : List Addr} {H : Hp} {i : Int} : RD Γ μ H (.int i) (.int i) := by unfold RD; rfl
theorem RD.bl {μ : List Addr} {H : Hp} {b : Bool} : RD Γ μ H (.bl b) (.bl b) := by unfold RD; rfl
theorem RD.non {μ : List Addr} {H : Hp} : RD Γ μ H .non .non := by unfold RD; rfl
theorem RD.str {μ : List Addr} {H : Hp} {s : Str} (h : strOk s = true) : RD Γ μ H (.str s) (.str s) := by unfold RD; exact ⟨rfl, h⟩
theorem RD.ofInt {μ : List Addr} {H : Hp} {i : Int} {v : V} (h : RD Γ μ H (.int i) v) : v = .int i := by unfold RD at h; exact h
theorem RD.ofBl {μ : List Addr} {H : Hp} {i : Bool} {v : V} (h : RD Γ μ H (.bl i) v) : v = .bl i := by unfold RD at h; exact h
theorem RD.ofStr {μ : List Addr} {H : Hp} {i : Str} {v : V} (h : RD Γ μ H (.str i) v) : v = .str i ∧ strOk i = true := by unfold RD at h; exact h
theorem RD.ofLoc {μ : List Addr} {H : Hp} {n : Nat} {v : V} (h : RD Γ μ H (.loc n) v) : ∃ a, μ[n]? = some a ∧ v = .ref a := by unfold RD at h; exact h
theorem RD.ofTup {μ : List Addr} {H : Hp} {l : List D} {v : V} (h : RD Γ μ H (.tup l) v) : ∃ a vs, v = .ref a ∧ H a = some (.tup vs) ∧ RDs Γ μ H l vs := by unfold RD at h; exact h
theorem RD.ofWt {μ : List Addr} {H : Hp} {l : List D} {v : V} (h : RD Γ μ H (.wt l) v) : ∃ a vs, v = .ref a ∧ SqT Γ.K H a vs ∧ RDs Γ μ H l vs := by unfold RD at h; exact h
theorem RD.ofFz {μ : List Addr} {H : Hp} {l : List D} {v : V} (h : RD Γ μ H (.fz l) v) : ∃ a vs, v = .ref a ∧ SqF Γ.K H a vs ∧ RDs Γ μ H l vs := by unfold RD at h; exact h
theorem od_int {g : Int → Int → Int} : OpD Γ (rI0 fun i j => .int (g i j)) (intF g) := by
  intro μ H st x y v u Q Wk r rx ry k
  unfold intF at k
  split at k
  · exact ⟨_, _, rx.ofInt, ry.ofInt, k.ok r RD.int⟩
  · exact k.elim
theorem od_intC {c : Int → Int → Bool} {g : Int → Int → Int} {C : Int → Int → Prop} (hc : ∀ i j, c i j = true → C i j) : OpD Γ (rI C fun i j => .int (g i j)) (intC c g) := by
  intro μ H st x y v u Q Wk r rx ry k
  unfold intC at k
  split at k
  · split at k
    · rename_i h
      exact ⟨_, _, rx.ofInt, ry.ofInt, hc _ _ h, k.ok r RD.int⟩
    · exact k.elim
  · exact k.elim
theorem od_ord {g : Int → Int → Bool} : OpD Γ (rI0 fun i j => .bl (g i j)) (ordF g) := by
  intro μ H st x y v u Q Wk r rx ry k
  unfold ordF at k
  split at k
  · exact ⟨_, _, rx.ofInt, ry.ofInt, k.ok r RD.bl⟩
  · exact k.elim
/-- two rules, each on data of its own kinds: f where g is bad -/
def orF (f g : D → D → Sto → Res D) (x y : D) (st : Sto) : Res D := match f x y st with
  | .bad => g x y st
  | r => r
theorem OpD.or {r r' : R2} {f g : D → D → Sto → Res D} (h : OpD Γ r f) (h' : OpD Γ r' g) : OpD Γ (fun x y H Q => r x y H Q ∨ r' x y H Q) (orF f g) := by
  intro μ H st x y v u Q Wk rs rx ry k
  unfold orF at k
  cases e : f x y st with
  | bad => rw [e] at k; exact .inr (h' μ H st x y v u Q Wk rs rx ry k)
  | ok d s => rw [e] at k; exact .inl (h μ H st x y v u Q Wk rs rx ry (by rw [e]; exact k))
  | exc d s => rw [e] at k; exact .inl (h μ H st x y v u Q Wk rs rx ry (by rw [e]; exact k))

theorem strOk_app {a b : Str} (ha : strOk a = true) (hb : strOk b = true) : strOk (a ++ b) = true := by
  have e : (a ++ b).cps = a.cps ++ b.cps := rfl
  unfold strOk PyData.strOk at *
  rw [e, Array.all_append, ha, hb] <;> rfl
def strAdd (x y : D) (st : Sto) : Res D := match x, y with
  | .str a, .str b => if szOk (a.length + b.length) then .ok (.str (a ++ b)) st else .bad
  | _, _ => .bad
theorem od_strAdd : OpD Γ (fun x y H Q => ∃ i j, x = .str i ∧ y = .str j ∧ i.length + j.length ≤ sizeLine ∧ Q (.str (i ++ j)) H) strAdd := by
  intro μ H st x y v u Q Wk r rx ry k
  unfold strAdd at k
  split at k
  · split at k
    · rename_i h
      exact ⟨_, _, rx.ofStr.1, ry.ofStr.1, szOk_le h, k.ok r (RD.str (strOk_app rx.ofStr.2 ry.ofStr.2))⟩
    · exact k.elim
  · exact k.elim
/-- what stands in a tuple -/
def tupOf : D → Option (List D)
  | .tup l => some l
  | .wt l => some l
  | _ => none
theorem tupOf_rd {μ : List Addr} {H : Hp} {x : D} {l : List D} {v : V} (h : RD Γ μ H x v) (e : tupOf x = some l) : ∃ a vs, v = .ref a ∧ SqT Γ.K H a vs ∧ RDs Γ μ H l vs := by
  cases x with
  | tup l' => cases e; obtain ⟨a, vs, h1, h2, h3⟩ := h.ofTup; exact ⟨a, vs, h1, .of h2, h3⟩
  | wt l' => cases e; exact h.ofWt
  | _ => cases e
def catT (x y : D) (st : Sto) : Res D := match x, y with
  | .tup a, .tup b => if szOk (a.length + b.length) then .ok (.tup (a ++ b)) st else .bad
  | _, _ => .bad
theorem od_catT : OpD Γ (rCatA Γ.K) catT := by
  intro μ H st x y v u Q Wk r rx ry k
  unfold catT at k
  split at k
  · rename_i l m
    split at k
    · rename_i h
      obtain ⟨p, xs, rfl, h1, h2⟩ := rx.ofTup
      obtain ⟨q, ys, rfl, h3, h4⟩ := ry.ofTup
      refine ⟨p, q, xs, ys, rfl, rfl, .of h1, .of h3, by rw [h2.length, h4.length]; exact szOk_le h, fun e => ?_, fun e1 e2 => ?_, fun e1 e2 z hz => ?_⟩
      · have e0 : l = [] := List.eq_nil_of_length_eq_zero (by rw [← h2.length, e] <;> rfl)
        subst e0
        exact k.ok r ry
      · have e0 : m = [] := List.eq_nil_of_length_eq_zero (by rw [← h4.length, e2] <;> rfl)
        subst e0
        rw [List.append_nil] at k
        exact k.ok r rx
      · exact k.tup r (h2.append h4) z hz
    · exact k.elim
  · exact k.elim
def lstOf (st : Sto) : D → Option (List D)
  | .loc n => match st[n]? with
    | some (.lst l) => some l
    | _ => none
  | _ => none
theorem lstOf_rd {μ : List Addr} {H : Hp} {st : Sto} {x : D} {l : List D} {v : V} (r : RS Γ μ H st) (h : RD Γ μ H x v) (e : lstOf st x = some l) : ∃ n a vs, x = .loc n ∧ μ[n]? = some a ∧ v = .ref a ∧ H a = some (.lst vs) ∧ RDs Γ μ H l vs := by
  unfold lstOf at e
  split at e
  · rename_i n
    obtain ⟨a, h1, rfl⟩ := h.ofLoc
    obtain ⟨o, h2, h3⟩ := r.mu_some h1
    rw [h2] at e
    split at e
    · rename_i l' e'
      cases e
      cases e'
      obtain ⟨vs, h4, h5⟩ := h3
      exact ⟨n, a, vs, rfl, h1, rfl, h4, h5⟩
    · cases e
  · cases e
def catL (x y : D) (st : Sto) : Res D := match lstOf st x, lstOf st y with
  | some a, some b => if szOk (a.length + b.length) then .ok (.loc st.length) (st ++ [.lst (a ++ b)]) else .bad
  | _, _ => .bad
theorem od_catL : OpD Γ rCat catL := by
  intro μ H st x y v u Q Wk r rx ry k
  unfold catL at k
  split at k
  · rename_i l m e1 e2
    split at k
    · rename_i h
      obtain ⟨n1, p, xs, _, _, rfl, h1, h2⟩ := lstOf_rd r rx e1
      obtain ⟨n2, q, ys, _, _, rfl, h3, h4⟩ := lstOf_rd r ry e2
      exact ⟨p, q, xs, ys, rfl, rfl, h1, h3, by rw [h2.length, h4.length]; exact szOk_le h, fun z hz => k.lst r (h2.append h4) z hz⟩
    · exact k.elim
  · exact k.elim
def addF : D → D → Sto → Res D := orF (orF (intF (· + ·)) strAdd) (orF catT catL)
def rAddA (K : PySem.W.Frag) : R2 := fun x y H Q => (rI0 (fun i j => .int (i + j)) x y H Q ∨ (∃ i j, x = .str i ∧ y = .str j ∧ i.length + j.length ≤ sizeLine ∧ Q (.str (i ++ j)) H)) ∨ (rCatA K x y H Q ∨ rCat x y H Q)
theorem op_addA : OpR X (binaryOp .Add) (rAddA X.K) := (op_add.or op_add_str).or (op_catA.or op_cat)
theorem od_add : OpD Γ (rAddA Γ.K) addF := (od_int.or od_strAdd).or (od_catT.or od_catL)
def subF : D → D → Sto → Res D := intF (· - ·)
theorem od_sub : OpD Γ (rI0 fun i j => .int (i - j)) subF := od_int
/-- a product: one factor below 2^64 -/
def mulC (i j : Int) : Bool := decide ((-(2 ^ 64) < i ∧ i < 2 ^ 64) ∨ (-(2 ^ 64) < j ∧ j < 2 ^ 64))
def repT (x y : D) (st : Sto) : Res D := match x, y with
  | .tup l, .int k => if decide (l ≠ [] ∧ 2 ≤ k ∧ k ≤ 1000 ∧ l.length ≤ 1000) then .ok (.tup (List.replicate k.toNat l).flatten) st else .bad
  | _, _ => .bad
theorem RDs.rep {μ : List Addr} {H : Hp} {l : List D} {vs : List V} (h : RDs Γ μ H l vs) : ∀ k : Nat, RDs Γ μ H (List.replicate k l).flatten (List.replicate k vs).flatten
  | 0 => RDs.nil
  | k + 1 => by
    rw [List.replicate_succ, List.replicate_succ, List.flatten_cons, List.flatten_cons]
    exact h.append (RDs.rep h k)
theorem od_repT : OpD Γ (rRepT Γ.K) repT := by
  intro μ H st x y v u Q Wk r rx ry k
  unfold repT at k
  split at k
  · rename_i l n
    split at k
    · rename_i h
      obtain ⟨h0, h1, h2, h3⟩ := of_decide_eq_true h
      obtain ⟨p, xs, rfl, h4, h5⟩ := rx.ofTup
      refine ⟨p, n, xs, rfl, ry.ofInt, .of h4, fun z => ?_, h1, h2, by rw [h5.length]; exact h3, fun z hz => k.tup r (h5.rep _) z hz⟩
      subst z
      have := h5.length
      cases l with
      | nil => exact h0 rfl
      | cons a b => simp at this
    · exact k.elim
  · exact k.elim
def repL (x y : D) (st : Sto) : Res D := match lstOf st x, y with
  | some l, .int k => if decide (-(2 ^ 63) ≤ k ∧ k < 2 ^ 63 ∧ l.length * k.toNat ≤ sizeLine) then .ok (.loc st.length) (st ++ [.lst (List.replicate k.toNat l).flatten]) else .bad
  | _, _ => .bad
theorem od_repL : OpD Γ rRep repL := by
  intro μ H st x y v u Q Wk r rx ry k
  unfold repL at k
  split at k
  · rename_i l n e1
    split at k
    · rename_i h
      obtain ⟨h1, h2, h3⟩ := of_decide_eq_true h
      obtain ⟨_, p, xs, _, _, rfl, h4, h5⟩ := lstOf_rd r rx e1
      exact ⟨p, n, xs, rfl, ry.ofInt, h4, h1, h2, by rw [h5.length]; exact h3, fun z hz => k.lst r (h5.rep _) z hz⟩
    · exact k.elim
  · exact k.elim
theorem rep_size (a : Array Nat) : ∀ (n : Nat) (acc : Array Nat), ((List.replicate n a).foldl (· ++ ·) acc).size = acc.size + n * a.size
  | 0, acc => by simp
  | n + 1, acc => by
    rw [List.replicate_succ, List.foldl_cons, rep_size a n, Array.size_append, Nat.succ_mul]
    omega
theorem rep_all (p : Nat → Bool) (a : Array Nat) (h : a.all p = true) : ∀ (n : Nat) (acc : Array Nat), acc.all p = true → ((List.replicate n a).foldl (· ++ ·) acc).all p = true
  | 0, acc, q => by simpa using q
  | n + 1, acc, q => by
    rw [List.replicate_succ, List.foldl_cons]
    exact rep_all p a h n _ (by rw [Array.all_append, q, h] <;> rfl)
/-- a text of one sign, repeated -/
def rRepS : R2 := fun x y H Q => ∃ (z : Str) (k : Int), x = .str z ∧ y = .int k ∧ 2 ≤ k ∧ k ≤ 1000 ∧ z.length = 1 ∧ Q (.str ⟨(List.replicate k.toNat z.cps).foldl (· ++ ·) #[]⟩) H
theorem op_repS : OpR X (binaryOp .Mult) rRepS := by
  intro pins s σ H x y v u Q I rx ry h
  obtain ⟨z, k, rfl, rfl, h1, h2, h3, q⟩ := h
  obtain ⟨t, rfl⟩ := rx
  obtain ⟨t', rfl⟩ := ry
  refine PySem.P.mul_str (by rw [decide_eq_false (by omega), decide_eq_false (by omega)] <;> rfl) (fun _ _ => ?_) (fun _ _ => ?_) ?_
  · rw [h3]
    intro z
    have : (2 ^ 63 - 1 : Int) / k ≥ 1 := by
      have h0 : (0 : Int) < k := by omega
      exact (Int.le_ediv_iff_mul_le h0).mpr (by omega)
    omega
  · have e : z.length * k.toNat ≤ 1000 := by rw [h3]; omega
    have := sizeLine_eq
    unfold Builtin.Str.tooLong
    exact decide_eq_false (by omega)
  · have c1 : ¬ k < 1 := by omega
    rw [if_neg c1]
    have c2 : (k == 1 || z.length == 0) = false := by
      rw [h3]
      have : (k == 1) = false := by simp; omega
      rw [this] <;> rfl
    rw [if_neg (by rw [c2]; exact Bool.false_ne_true)]
    refine ⟨?_, ⟨.str _, H, I.tok _, ⟨_, rfl⟩, q⟩⟩
    show ((List.replicate k.toNat z.cps).foldl (· ++ ·) #[]).size ≤ sizeLine
    have e : z.cps.size = 1 := h3
    rw [rep_size, e]
    have := sizeLine_eq
    simp
    omega
def repS (x y : D) (st : Sto) : Res D := match x, y with
  | .str z, .int k => if decide (2 ≤ k ∧ k ≤ 1000 ∧ z.length = 1) then .ok (.str ⟨(List.replicate k.toNat z.cps).foldl (· ++ ·) #[]⟩) st else .bad
  | _, _ => .bad
theorem od_repS : OpD Γ rRepS repS := by
  intro μ H st x y v u Q Wk r rx ry k
  unfold repS at k
  split at k
  · split at k
    · rename_i z n h
      obtain ⟨h1, h2, h3⟩ := of_decide_eq_true h
      exact ⟨z, n, rx.ofStr.1, ry.ofInt, h1, h2, h3, k.ok r (RD.str (rep_all _ _ rx.ofStr.2 _ _ (by simp)))⟩
    · exact k.elim
  · exact k.elim
def mulF : D → D → Sto → Res D := orF (orF (intC mulC (· * ·)) repT) (orF repL repS)
def rMulA (K : PySem.W.Frag) : R2 := fun x y H Q => (rI CMul (fun i j => .int (i * j)) x y H Q ∨ rRepT K x y H Q) ∨ (rRep x y H Q ∨ rRepS x y H Q)
theorem op_mulA : OpR X (binaryOp .Mult) (rMulA X.K) := (op_mul.or op_repT).or (op_rep.or op_repS)
theorem od_mul : OpD Γ (rMulA Γ.K) mulF := ((od_intC fun i j h => by unfold mulC at h; have q := of_decide_eq_true h; exact q).or od_repT).or (od_repL.or od_repS)
def divC (i j : Int) : Bool := decide (j ≠ 0 ∧ j.natAbs < 1073741824)
def fdivF : D → D → Sto → Res D := intC divC Int.fdiv
theorem od_fdiv : OpD Γ (rI CDivN fun i j => .int (i.fdiv j)) fdivF := od_intC fun i j h => by unfold divC at h; have q := of_decide_eq_true h; exact q
def modF : D → D → Sto → Res D := intC (fun _ j => decide (j ≠ 0)) Int.fmod
theorem od_mod : OpD Γ (rI (fun _ j => j ≠ 0) fun i j => .int (i.fmod j)) modF := od_intC fun i j h => of_decide_eq_true h
def powF : D → D → Sto → Res D := intC (fun i j => decide (0 ≤ j ∧ j ≤ 1000000 ∧ i.natAbs < 2 ^ 64)) (fun i j => i ^ j.toNat)
theorem od_pow : OpD Γ (rI CPow fun i j => .int (i ^ j.toNat)) powF := od_intC fun i j h => by have q := of_decide_eq_true h; exact q

/-! ### < <= > >= of ints and of texts -/
def strOrd (g : List Nat → List Nat → Bool) (x y : D) (st : Sto) : Res D := match x, y with
  | .str i, .str j => .ok (.bl (g i.cps.toList j.cps.toList)) st
  | _, _ => .bad
theorem od_strOrd {g : List Nat → List Nat → Bool} : OpD Γ (fun x y H Q => ∃ i j : Str, x = .str i ∧ y = .str j ∧ Q (.bl (g i.cps.toList j.cps.toList)) H) (strOrd g) := by
  intro μ H st x y v u Q Wk r rx ry k
  unfold strOrd at k
  split at k
  · exact ⟨_, _, rx.ofStr.1, ry.ofStr.1, k.ok r RD.bl⟩
  · exact k.elim
def rOrdA (g : Int → Int → Bool) (f : List Nat → List Nat → Bool) : R2 := fun x y H Q => rI0 (fun i j => .bl (g i j)) x y H Q ∨ ∃ i j : Str, x = .str i ∧ y = .str j ∧ Q (.bl (f i.cps.toList j.cps.toList)) H
theorem op_ltA : OpR X (compareOp .Lt) (rOrdA (fun i j => decide (i < j)) fun i j => decide (i < j)) := op_lt.or op_lt_str
theorem op_leA : OpR X (compareOp .LtE) (rOrdA (fun i j => decide (i ≤ j)) fun i j => !decide (j < i)) := op_le.or op_le_str
theorem op_gtA : OpR X (compareOp .Gt) (rOrdA (fun i j => decide (j < i)) fun i j => decide (j < i)) := op_gt.or op_gt_str
theorem op_geA : OpR X (compareOp .GtE) (rOrdA (fun i j => decide (j ≤ i)) fun i j => !decide (i < j)) := op_ge.or op_ge_str
def ltF : D → D → Sto → Res D := orF (ordF fun i j => decide (i < j)) (strOrd fun i j => decide (i < j))
def leF : D → D → Sto → Res D := orF (ordF fun i j => decide (i ≤ j)) (strOrd fun i j => !decide (j < i))
def gtF : D → D → Sto → Res D := orF (ordF fun i j => decide (j < i)) (strOrd fun i j => decide (j < i))
def geF : D → D → Sto → Res D := orF (ordF fun i j => decide (j ≤ i)) (strOrd fun i j => !decide (i < j))
theorem od_lt : OpD Γ (rOrdA (fun i j => decide (i < j)) fun i j => decide (i < j)) ltF := od_ord.or od_strOrd
theorem od_le : OpD Γ (rOrdA (fun i j => decide (i ≤ j)) fun i j => !decide (j < i)) leF := od_ord.or od_strOrd
theorem od_gt : OpD Γ (rOrdA (fun i j => decide (j < i)) fun i j => decide (j < i)) gtF := od_ord.or od_strOrd
theorem od_ge : OpD Γ (rOrdA (fun i j => decide (j ≤ i)) fun i j => !decide (i < j)) geF := od_ord.or od_strOrd

/-! ### subscripts -/
/-- d[k], by values -/
def rIxD : R2 := fun x y H Q => ∃ a v, x = .ref a ∧ DGet H a y (some v) ∧ Q v H
theorem ix_dict (hu : X.A.units + 1100 < cLine) : IxR X rIxD := by
  intro value slice pins s σ H x y v u Q I rx ry h hs
  obtain ⟨a, z, rfl, g, q⟩ := h
  cases rx
  exact tail_any (dict_typeIs I g) PySem.F.slot_dict_getitem.lookup (d_getItem (by omega) I g ry fun w' s' I' rw' => ⟨z, H, I', rw', q⟩) hs
def rIxA (K : PySem.W.Frag) : R2 := fun x y H Q => rIx K x y H Q ∨ rIxD x y H Q
theorem ix_all (hu : X.A.units + 1100 < cLine) : IxR X (rIxA X.K) := ix_seq.or (ix_dict hu)
def seqOf (st : Sto) : D → Option (List D)
  | .tup l => some l
  | .wt l => some l
  | .fz l => some l
  | .loc n => match st[n]? with
    | some (.lst l) => some l
    | _ => none
  | _ => none
theorem atI_rd {μ : List Addr} {H : Hp} {l : List D} {vs : List V} {i : Int} {d : D} (h : RDs Γ μ H l vs) (e : atI l i = some d) : ∃ v, atI vs i = some v ∧ RD Γ μ H d v := by
  unfold atI at e ⊢
  rw [h.length]
  obtain ⟨j, h1, h2⟩ := Option.bind_eq_some_iff.mp e
  obtain ⟨v, h3, h4⟩ := h.get h2
  exact ⟨v, by rw [h1]; exact h3, h4⟩
def ixF (x y : D) (st : Sto) : Res D := match dictAt st x y with
  | some (some d) => .ok d st
  | some none => .bad
  | none => match y with
    | .int i => match seqOf st x with
      | some l => match atI l i with
        | some d => .ok d st
        | none => .bad
      | none => match x with
        | .str z => if szOk z.length then match atI z.cps.toList i with
            | some c => .ok (.str ⟨#[c]⟩) st
            | none => .bad
          else .bad
        | _ => .bad
    | _ => .bad
theorem atI_mem {α : Type} {l : List α} {i : Int} {c : α} (h : atI l i = some c) : c ∈ l := by
  unfold atI at h
  obtain ⟨j, h1, h2⟩ := Option.bind_eq_some_iff.mp h
  exact List.mem_of_getElem? h2
theorem strOk_sign {z : Str} {c : Nat} (h : strOk z = true) (hc : c ∈ z.cps.toList) : strOk ⟨#[c]⟩ = true := by
  unfold strOk PyData.strOk at *
  rw [Array.all_eq_true'] at h
  have := h c (by simpa using hc)
  simpa using this
theorem od_ix : OpD Γ (rIxA Γ.K) ixF := by
  intro μ H st x y v u Q Wk r rx ry k
  unfold ixF at k
  split at k
  · rename_i d e
    obtain ⟨a, ov, rfl, g, h1, _⟩ := dictAt_get r rx ry e
    obtain ⟨w, rfl, hw⟩ := h1 d rfl
    exact .inr ⟨a, w, rfl, g, k.ok r hw⟩
  · exact k.elim
  · split at k
    · rename_i i _
      split at k
      · rename_i l e
        split at k
        · rename_i d ed
          cases x with
          | tup l' =>
            cases e
            obtain ⟨a, vs, rfl, h1, h2⟩ := rx.ofTup
            obtain ⟨w, h3, h4⟩ := atI_rd h2 ed
            exact .inl (.inr (.inl ⟨a, vs, i, w, rfl, ry.ofInt, .of h1, h3, k.ok r h4⟩))
          | wt l' =>
            cases e
            obtain ⟨a, vs, rfl, h1, h2⟩ := rx.ofWt
            obtain ⟨w, h3, h4⟩ := atI_rd h2 ed
            exact .inl (.inr (.inl ⟨a, vs, i, w, rfl, ry.ofInt, h1, h3, k.ok r h4⟩))
          | fz l' =>
            cases e
            obtain ⟨a, vs, rfl, h1, h2⟩ := rx.ofFz
            obtain ⟨w, h3, h4⟩ := atI_rd h2 ed
            exact .inl (.inl ⟨a, vs, i, w, rfl, ry.ofInt, h1.sq, h3, k.ok r h4⟩)
          | loc n =>
            obtain ⟨_, a, vs, _, _, rfl, h1, h2⟩ := lstOf_rd r rx (show lstOf st (.loc n) = some l from e)
            obtain ⟨w, h3, h4⟩ := atI_rd h2 ed
            exact .inl (.inl ⟨a, vs, i, w, rfl, ry.ofInt, .of h1, h3, k.ok r h4⟩)
          | _ => cases e
        · exact k.elim
      · split at k
        · rename_i z _ _
          split at k
          · rename_i hz
            split at k
            · rename_i c hc
              obtain ⟨rfl, ok⟩ := rx.ofStr
              exact .inl (.inr (.inr ⟨z, i, c, rfl, ry.ofInt, szOk_le hz, hc, k.ok r (RD.str (strOk_sign ok (atI_mem hc)))⟩))
            · exact k.elim
          · exact k.elim
        · exact k.elim
    · exact k.elim
theorem m_ix {a b : Expr} {ma mb : M} {pos : Pos} {W : WX} (hu : X.A.units + 1100 < cLine) (hK : X.K = Γ.K) (ha : PE X a (dE Γ W ma)) (hb : PE X b (dE Γ W mb)) (hs : PlainIx b := by intro _ _; rfl) : PE X (.Subscript a b pos) (dE Γ W (m2 ixF ma mb)) := by
  refine pe_imp (pe_ix (ix_all hu) ha hb hs) fun _ _ _ h => ?_
  rw [hK]
  exact op2 od_ix h
end
end Mp

set_option Elab.async false
set_option linter.all false
set_option maxRecDepth 100000
set_option maxHeartbeats 2000000
/-! Mp5: slices. -/
namespace Mp
open PySem PySem.Spec PyProof.Rows L2

abbrev MO := Slots → Sto → Res (Option Int)
def rOI : List Addr → Hp → Option Int → Option Int → Prop := fun _ _ a b => a = b
def dO (Γ : Cfg) (W : WX) (m : MO) : TO := fun σ H Q => ∃ μ e st, RS Γ μ H st ∧ RE Γ μ H e σ ∧ KO Γ rOI μ H (fun c d H' => W c d σ H') (m e st) Q
def mNoPart : MO := fun _ st => .ok none st
def mPart (m : M) : MO := fun e st => (m e st).bind fun d s1 => match d with
  | .int i => .ok (some i) s1
  | _ => .bad
section
variable {X : Cx} {Γ : Cfg} {W : WX}
theorem po_imp {e : Option Expr} {t t' : TO} (h : PO X e t) (i : ∀ σ H Q, t' σ H Q → t σ H Q) : PO X e t' := ⟨fun pins s σ H Q I q => h.run pins s σ H Q I (i σ H Q q)⟩
theorem mo_none : PO X none (dO Γ W mNoPart) := po_imp po_none fun σ H Q ⟨μ, e, st, r, re, k⟩ => k.ok r rfl
theorem mo_some {e : Expr} {m : M} (h : PE X e (dE Γ W m)) : PO X (some e) (dO Γ W (mPart m)) := by
  refine po_imp (po_some h) ?_
  rintro σ H Q ⟨μ, e, st, r, re, k⟩
  refine ⟨μ, e, st, r, re, KO.bind k fun x s1 μ1 H1 v _ e1 r1 q1 k1 => ?_⟩
  cases x with
  | int i => exact ⟨i, q1.ofInt, k1.ok r1 rfl⟩
  | _ => exact False.elim k1

theorem lstOf_loc {st : Sto} {n : Nat} {l : List D} (h : st[n]? = some (.lst l)) : lstOf st (.loc n) = some l := by
  show (match st[n]? with | some (.lst l) => some l | _ => none) = some l
  rw [h]
def cutD (l : List D) (lo hi : Option Int) : List D := (l.drop (HT.sIx l.length 0 lo)).take (HT.sIx l.length l.length hi - HT.sIx l.length 0 lo)
theorem RDs.cut {μ : List Addr} {H : Hp} {l : List D} {vs : List V} (h : RDs Γ μ H l vs) (lo hi : Option Int) : RDs Γ μ H (cutD l lo hi) (cutV vs lo hi) := by
  unfold cutD cutV
  rw [h.length]
  exact (h.drop _).take _
def rSlAll (K : PySem.W.Frag) : V → Option Int → Option Int → Hp → VK → Prop := fun x lo hi H Q => (rSlA K x lo hi H Q ∨ rSlL K x lo hi H Q) ∨ rSlS x lo hi H Q
theorem sl_all : SlR X (rSlAll X.K) := (sl_tupA.or sl_list).or sl_str
def slF (x : D) (lo hi : Option Int) (st : Sto) : Res D := match x with
  | .tup l => .ok (.tup (cutD l lo hi)) st
  | .loc n => match st[n]? with
    | some (.lst l) => .ok (.loc st.length) (st ++ [.lst (cutD l lo hi)])
    | _ => .bad
  | .fz l => .ok (.loc st.length) (st ++ [.lst (cutD l lo hi)])
  | .str z => if szOk z.length then .ok (.str (cutS z lo hi)) st else .bad
  | _ => .bad
theorem sIx_all {n : Nat} {lo hi : Option Int} (h1 : HT.sIx n 0 lo = 0) (h2 : HT.sIx n n hi = n) {l : List D} (h : l.length = n) : cutD l lo hi = l := by
  unfold cutD
  rw [h, h1, h2, Nat.sub_zero, List.drop_zero, ← h, List.take_length]
theorem strOk_cut {z : Str} {lo hi : Option Int} (h : strOk z = true) : strOk (cutS z lo hi) = true := by
  unfold strOk PyData.strOk at *
  unfold cutS
  rw [Array.all_eq_true'] at *
  intro c hc
  refine h c ?_
  simp at hc
  have := List.mem_of_mem_take hc
  exact by simpa using List.mem_of_mem_drop this
def mSl (m : M) (lo hi : MO) : M := fun e st => (m e st).bind fun x s1 => (lo e s1).bind fun l s2 => (hi e s2).bind fun h s3 => slF x l h s3
theorem m_slice {e : Expr} {lo hi : Option Expr} {m : M} {ml mh : MO} {p2 pos : Pos} (hK : X.K = Γ.K) (he : PE X e (dE Γ W m)) (hl : PO X lo (dO Γ W ml)) (hu : PO X hi (dO Γ W mh)) : PE X (.Subscript e (.Slice lo hi none p2) pos) (dE Γ W (mSl m ml mh)) := by
  refine pe_imp (pe_slice sl_all he hl hu) ?_
  rintro σ H Q ⟨μ, e, st, r, re, k⟩
  refine ⟨μ, e, st, r, re, KO.bind k fun x s1 μ1 H1 v _ e1 r1 q1 k1 => ?_⟩
  refine ⟨μ1, e, s1, r1, re.mono e1, KO.bind k1 fun a s2 μ2 H2 a' _ e2 r2 q2 k2 => ?_⟩
  refine ⟨μ2, e, s2, r2, re.mono (e1.trans e2), KO.bind k2 fun b s3 μ3 H3 b' _ e3 r3 q3 k3 => ?_⟩
  cases q2
  cases q3
  have qx := q1.mono (e2.trans e3)
  rw [hK]
  unfold slF at k3
  split at k3
  · rename_i l _
    obtain ⟨p, vs, rfl, h1, h2⟩ := qx.ofTup
    refine .inl (.inl ⟨p, vs, rfl, .of h1, fun ⟨h3, h4⟩ => ?_, fun h3 z hz => k3.tup r3 (h2.cut _ _) z hz⟩)
    rw [h2.length] at h3 h4
    rw [sIx_all h3 h4 rfl] at k3
    exact k3.ok r3 qx
  · rename_i n _
    split at k3
    · rename_i l hn
      obtain ⟨_, p, vs, _, _, rfl, h1, h2⟩ := lstOf_rd r3 qx (lstOf_loc hn)
      exact .inl (.inr ⟨p, vs, rfl, .of h1, fun z hz => k3.lst r3 (h2.cut _ _) z hz⟩)
    · exact k3.elim
  · rename_i l _
    obtain ⟨p, vs, rfl, h1, h2⟩ := qx.ofFz
    exact .inl (.inr ⟨p, vs, rfl, h1.sq, fun z hz => k3.lst r3 (h2.cut _ _) z hz⟩)
  · rename_i z _
    split at k3
    · rename_i hz
      obtain ⟨rfl, ok⟩ := qx.ofStr
      exact .inr ⟨z, rfl, szOk_le hz, k3.ok r3 (RD.str (strOk_cut ok))⟩
    · exact k3.elim
  · exact k3.elim
end

/-! ### backwards -/
section
variable {prog : Program} {w : World} {A : Around} {E : Value → Shared → Prop} {s : Shared}
theorem back_adj (n : Nat) : Builtin.Slice.sliceAdjust none none (-1) (n : Int) = ((n : Int) - 1, -1) := by
  unfold Builtin.Slice.sliceAdjust
  simp
theorem back_places (n : Nat) : Builtin.Slice.slicePlaces ((n : Int) - 1) (-1) (-1) = n := by
  unfold Builtin.Slice.slicePlaces
  simp
  split <;> omega
theorem back_pick (xs : Array Value) : ((List.range xs.size).filterMap fun (k : Nat) => xs[(((xs.size : Int) - 1) + (k : Int) * -1).toNat]?).toArray = xs.toList.reverse.toArray := by
  have e : (fun (k : Nat) => xs[(((xs.size : Int) - 1) + (k : Int) * -1).toNat]?) = (fun m => xs[m]?) ∘ fun k => xs.size - 1 - k := by
    funext k
    have : (((xs.size : Int) - 1) + (k : Int) * -1).toNat = xs.size - 1 - k := by omega
    show xs[(((xs.size : Int) - 1) + (k : Int) * -1).toNat]? = xs[xs.size - 1 - k]?
    rw [this]
  rw [e, ← List.filterMap_map, PySem.W.krv_range, List.filterMap_reverse, PySem.W.krv_all]
theorem back_applied {sl : Addr} {vs : Value} {n : Nat} {Q : Int × Int × Nat → Shared → Prop} (hs : s.heap.IsSliceOf sl .none .none vs) (ps : IsPart vs (some (-1)))
    (h : Q ((n : Int) - 1, -1, n) s) : wpAny (model prog w) A (Builtin.Slice.sliceApplied (.ref sl) (pure (n : Int))) Q E s := by
  obtain ⟨o, ho, _, hd⟩ := hs
  unfold Builtin.Slice.sliceApplied Builtin.Slice.sliceFields
  refine wpAny_bind (wpAny_bind (wpAny_field ho hd (x := .none) rfl ?_))
  refine wpAny_bind (wpAny_field ho hd (x := .none) rfl ?_)
  refine wpAny_bind (wpAny_field ho hd (x := vs) rfl (wpAny_pure ?_))
  refine wpAny_bind (HT.slicePart_ ps ?_)
  show wpAny _ _ (if ((-1 : Int) == 0) = true then _ else _) _ _ s
  rw [if_neg (by decide)]
  refine wpAny_bind (HT.slicePart_ .none ?_)
  refine wpAny_bind (HT.slicePart_ .none (wpAny_bind (wpAny_pure ?_)))
  show wpAny _ _ (match Builtin.Slice.sliceAdjust none none (-1) (n : Int) with | (lo, hi) => pure (lo, (-1 : Int), Builtin.Slice.slicePlaces lo hi (-1))) _ _ s
  rw [back_adj]
  show wpAny _ _ (pure ((n : Int) - 1, (-1 : Int), Builtin.Slice.slicePlaces ((n : Int) - 1) (-1) (-1))) _ _ s
  rw [back_places]
  exact wpAny_pure h
theorem back_tup {t sl : Addr} {items : Array Value} {vs : Value} {Q : Value → Shared → Prop} (ht : IsTup s.heap t items) (hs : s.heap.IsSliceOf sl .none .none vs) (ps : IsPart vs (some (-1))) (hz : items.size ≤ sizeLine)
    (h : Q (.ref s.heap.objs.size) { s with heap := s.heap.push { cls := .type "tuple", data := .seq items.toList.reverse.toArray } }) : wpAny (model prog w) A (getItem (.ref t) (.ref sl)) Q E s := by
  obtain ⟨o, ho, hc, _⟩ := id hs
  have tS : s.TypeIs (.ref sl) "slice" := ⟨o, ho, hc⟩
  unfold getItem
  try with_reducible refine wpAny_holding ?_
  first | refine wpAny_bind (wpAny_pure ?_) | skip
  refine wpAny_bind (wpAny_sequenceKey ht.typeIs (by decide) ?_)
  refine wpAny_bind (wpAny_callSpecial?_slot (name := Str.ofString "__getitem__") ht.typeIs PyProof.Rows.slot_tuple_getitem ?_)
  refine wpAny_call_entry PyProof.Rows.slot_tuple_getitem ht.typeIs entry_tuple_getitem ?_ (args_tuple_getitem _ _)
  show wpAny _ _ (Builtin.Tuple.tupleItemsOf (.ref t) >>= _) _ _ s
  refine wpAny_bind (tupleItemsOf_ ht ?_)
  refine wpAny_bind (wpAny_typeOf tS ?_)
  rw [if_pos (by decide)]
  refine wpAny_bind (back_applied hs ps ?_)
  show wpAny _ _ (if (((items.size : Int) - 1 == 0) && ((-1 : Int) == 1) && (items.size == items.size)) = true then _ else _) _ _ s
  rw [if_neg (by simp), back_pick]
  have z : sizeOk (.seq items.toList.reverse.toArray) := by
    show items.toList.reverse.toArray.size ≤ sizeLine
    simpa using hz
  exact wpAny_bind (m := Builtin.Tuple.tupleExact _) (wpAny_newObj_type (wpAny_pure ⟨_, rfl, wpAny_pure h⟩) z)
end
section
variable {X : Cx} {Γ : Cfg} {W : WX}
def backF (x : D) (st : Sto) : Res D := match x with
  | .tup l => .ok (.tup l.reverse) st
  | .wt l => .ok (.tup l.reverse) st
  | .loc n => match st[n]? with
    | some (.lst l) => .ok (.loc st.length) (st ++ [.lst l.reverse])
    | _ => .bad
  | _ => .bad
def m1 (f : D → Sto → Res D) (m : M) : M := fun e st => (m e st).bind fun x s1 => f x s1
def tBack (K : PySem.W.Frag) (te : TE) : TE := fun σ H Q => te σ H fun x H1 => ∃ a xs, x = .ref a ∧ ((SqL K H1 a xs ∧ ∀ p, H1 p = none → Q (.ref p) (upd H1 p (.lst xs.reverse))) ∨ (SqT K H1 a xs ∧ ∀ p, H1 p = none → Q (.ref p) (upd H1 p (.tup xs.reverse))))
theorem pe_back {e : Expr} {te : TE} {k : Nat} {p1 p2 p3 pos : Pos} (he : PE X e te) : PE X (.Subscript e (.Slice none none (some (.UnaryOp .USub (.Constant (.int 1) k p1) p2)) p3) pos) (tBack X.K te) := by
  refine ⟨fun pins s σ H Q I h => ?_⟩
  refine Subscript_ (thn (he.run pins s σ H _ I h) fun v s1 ⟨x, H1, I1, r1, a, xs, ex, q⟩ => ?_)
  subst ex
  cases r1
  have step : PO X (some (.UnaryOp .USub (.Constant (.int 1) k p1) p2)) (tPart (tUn (rU fun i => .int (-i)) (tC (.int 1)))) := po_some (pe_un un_neg pe_int)
  refine wpAny_Slice (thn (po_none.run pins s1 σ H1 (fun o H2 => o = none ∧ H2 = H1) I1 ⟨rfl, rfl⟩) fun vl s2 hh2 => ?_)
  obtain ⟨_, H2, I2, pl, rfl, rfl⟩ := hh2
  refine thn (po_none.run pins s2 σ H2 (fun o H3 => o = none ∧ H3 = H2) I2 ⟨rfl, rfl⟩) fun vu s3 hh3 => ?_
  obtain ⟨_, H3, I3, pu, rfl, rfl⟩ := hh3
  refine thn (step.run pins s3 σ H3 (fun o H4 => o = some (-1) ∧ H4 = H3) I3 ⟨1, rfl, -1, rfl, rfl, rfl⟩) fun vs s4 hh4 => ?_
  obtain ⟨_, H4, I4, ps, rfl, rfl⟩ := hh4
  cases pl
  cases pu
  have I5 : Inv X pins σ H4 { s4 with heap := s4.heap.push { cls := .type "slice", data := .fields #[.none, .none, vs] } } := I4.kept (t' := s4.toks) fun b ob q => Heap.get?_push_of_some _ q
  have fin : ∀ (ob : Obj) (ho : HO), ObjOk X.prog X.w (upd H4 (s4.heap.objs.size + 1) ho) ((s4.heap.push { cls := .type "slice", data := .fields #[.none, .none, vs] }).push ob) (s4.heap.objs.size + 1) ho → Q (.ref (s4.heap.objs.size + 1)) (upd H4 (s4.heap.objs.size + 1) ho) →
      EP X pins σ Q (.ref (s4.heap.push { cls := .type "slice", data := .fields #[.none, .none, vs] }).objs.size) { s4 with heap := (s4.heap.push { cls := .type "slice", data := .fields #[.none, .none, vs] }).push ob } := by
    intro ob ho hok hq
    have ez : (s4.heap.push { cls := .type "slice", data := .fields #[.none, .none, vs] }).objs.size = s4.heap.objs.size + 1 := by rw [Heap.size_push]
    rw [ez]
    exact ⟨.ref _, _, I5.laid (t' := s4.toks) (o := ho) (fun b o q => Heap.get?_push_of_some _ q) (Nat.le_of_eq ez) hok, rfl, hq⟩
  have ez : (s4.heap.push { cls := .type "slice", data := .fields #[.none, .none, vs] }).objs.size = s4.heap.objs.size + 1 := by rw [Heap.size_push]
  have free : H4 (s4.heap.objs.size + 1) = none := I5.hok.fresh (Nat.le_of_eq ez)
  have sl := Heap.IsSliceOf.new s4.heap .none .none vs
  rcases q with ⟨hx, q⟩ | ⟨hx, q⟩
  · obtain ⟨its, r, ht, hz⟩ := I5.list hx
    have hlen := r.length
    refine tail_any (ops := [.ref a, .ref s4.heap.objs.size]) ht.isList.typeIs PySem.slot_list_getitem.lookup ?_ (by with_unfolding_all rfl)
    refine wpAny_getItem_list_slice ht.isList sl .none .none ps (by decide) ?_ (by rw [List.size_toArray]; omega)
    rw [PySem.W.krv_pick]
    exact fin _ (.lst xs.reverse) ⟨by simpa using hz, _, 0, r.reverse, by rw [← ez]; exact Heap.get?_push_size _ rfl⟩ (q _ free)
  · obtain ⟨its, r, ht, hz⟩ := I5.tuple hx
    have hlen := r.length
    refine tail_any (ops := [.ref a, .ref s4.heap.objs.size]) ht.typeIs PyProof.Rows.slot_tuple_getitem.lookup ?_ (by with_unfolding_all rfl)
    refine back_tup ht sl ps (by rw [List.size_toArray]; omega) ?_
    refine fin _ (.tup xs.reverse) ⟨by simpa using hz, its.reverse, r.reverse, ?_⟩ (q _ free)
    have : its.toArray.toList.reverse = its.reverse := by simp
    rw [this]
    exact ⟨_, by rw [← ez]; exact Heap.get?_push_size _ rfl, rfl, 0, rfl⟩
theorem m_back {e : Expr} {m : M} {k : Nat} {p1 p2 p3 pos : Pos} (hK : X.K = Γ.K) (he : PE X e (dE Γ W m)) : PE X (.Subscript e (.Slice none none (some (.UnaryOp .USub (.Constant (.int 1) k p1) p2)) p3) pos) (dE Γ W (m1 backF m)) := by
  refine pe_imp (pe_back he) ?_
  rintro σ H Q ⟨μ, e, st, r, re, k⟩
  refine ⟨μ, e, st, r, re, KO.bind k fun x s1 μ1 H1 v hx e1 r1 q1 k1 => ?_⟩
  rw [hK]
  unfold backF at k1
  split at k1
  · rename_i l _
    obtain ⟨p, vs, rfl, h1, h2⟩ := q1.ofTup
    exact ⟨p, vs, rfl, .inr ⟨.of h1, fun z hz => k1.tup r1 h2.reverse z hz⟩⟩
  · rename_i l _
    obtain ⟨p, vs, rfl, h1, h2⟩ := q1.ofWt
    exact ⟨p, vs, rfl, .inr ⟨h1, fun z hz => k1.tup r1 h2.reverse z hz⟩⟩
  · rename_i n
    split at k1
    · rename_i l hn
      obtain ⟨_, p, vs, _, _, rfl, h1, h2⟩ := lstOf_rd r1 q1 (lstOf_loc hn)
      exact ⟨p, vs, rfl, .inl ⟨.of h1, fun z hz => k1.lst r1 h2.reverse z hz⟩⟩
    · exact k1.elim
  · exact k1.elim
end
end Mp

set_option Elab.async false
set_option linter.all false
set_option maxRecDepth 100000
set_option maxHeartbeats 2000000
/-! Mp6: truth, and, or, not, a if t else b, chains, unary minus. -/
namespace Mp
open PySem PySem.Spec PyProof.Rows L2

/-- a value's truth -/
def truD (st : Sto) : D → Option Bool
  | .non => some false
  | .bl b => some b
  | .int i => some (i != 0)
  | .str s => if szOk s.length then some ((s.length : Int) != 0) else none
  | .tup l => some (!l.isEmpty)
  | .wt l => some (!l.isEmpty)
  | .fz l => some (!l.isEmpty)
  | .loc n => match st[n]? with
    | some (.lst l) => some (!l.isEmpty)
    | some (.dK l) => some (!l.isEmpty)
    | _ => none
  | .cst _ => none
def mTru (m : M) : MT := fun e st => (m e st).bind fun d s1 => match truD s1 d with
  | some b => .ok b s1
  | none => .bad
section
variable {X : Cx} {Γ : Cfg} {W : WX} {a b c : Expr} {ma mb mc : M} {ta tb : MT} {rest : List Expr} {pos : Pos}
theorem RDs.isEmpty {μ : List Addr} {H : Hp} {l : List D} {vs : List V} (h : RDs Γ μ H l vs) : vs.isEmpty = l.isEmpty := by
  cases l with
  | nil => cases h.unnil; rfl
  | cons d l => obtain ⟨v, r, rfl, _⟩ := h.uncons; rfl
theorem RKs.isEmpty {κ : Type} {μ : List Addr} {H : Hp} {l : List (κ × D)} {vs : List (κ × V)} (h : RKs Γ μ H l vs) : vs.isEmpty = l.isEmpty := by
  cases l with
  | nil => cases (show _ = [] from h); rfl
  | cons d l => obtain ⟨v, r, rfl, _⟩ := h; rfl
theorem truD_v {μ : List Addr} {H : Hp} {st : Sto} {d : D} {v : V} {k : Bool} (r : RS Γ μ H st) (h : RD Γ μ H d v) (e : truD st d = some k) : TruV Γ.K v H k := by
  cases d with
  | non => unfold RD at h; subst h; cases e; rfl
  | bl b => cases h.ofBl; cases e; rfl
  | int i => cases h.ofInt; cases e; rfl
  | str s =>
    cases h.ofStr.1
    replace e : (if szOk s.length then some ((s.length : Int) != 0) else none) = some k := e
    split at e
    · rename_i hz
      cases e
      exact ⟨szOk_le hz, rfl⟩
    · cases e
  | tup l => obtain ⟨a, vs, rfl, h1, h2⟩ := h.ofTup; cases e; exact .inr (.inl ⟨vs, .of h1, by rw [h2.isEmpty]⟩)
  | wt l => obtain ⟨a, vs, rfl, h1, h2⟩ := h.ofWt; cases e; exact .inr (.inl ⟨vs, h1, by rw [h2.isEmpty]⟩)
  | fz l => obtain ⟨a, vs, rfl, h1, h2⟩ := h.ofFz; cases e; exact .inl ⟨vs, h1.sq, by rw [h2.isEmpty]⟩
  | loc n =>
    obtain ⟨a, h1, rfl⟩ := h.ofLoc
    obtain ⟨o, h2, h3⟩ := r.mu_some h1
    replace e : (match st[n]? with
      | some (.lst l) => some (!l.isEmpty)
      | some (.dK l) => some (!l.isEmpty)
      | _ => none) = some k := e
    rw [h2] at e
    cases o with
    | lst l => obtain ⟨vs, h4, h5⟩ := h3; cases e; exact .inl ⟨vs, .of h4, by rw [h5.isEmpty]⟩
    | dK l => obtain ⟨vs, h4, h5⟩ := h3; cases e; exact .inr (.inr ⟨vs, h4, by rw [h5.isEmpty]⟩)
    | _ => cases e
  | cst k => cases e
theorem tru_of {m : M} {σ : L2.St} {H : Hp} {Q : Bool → Hp → Prop} (h : dT Γ W (mTru m) σ H Q) : dE Γ W m σ H fun x H' => ∃ k, TruV Γ.K x H' k ∧ Q k H' := by
  obtain ⟨μ, e, st, r, re, k⟩ := h
  refine ⟨μ, e, st, r, re, KO.bind k fun x s1 μ1 H1 v _ e1 r1 q1 k1 => ?_⟩
  cases ht : truD s1 x with
  | none => rw [ht] at k1; exact k1.elim
  | some b => rw [ht] at k1; exact ⟨b, truD_v r1 q1 ht, k1.ok r1 rfl⟩
theorem mt_tru (hK : X.K = Γ.K) (ha : PE X a (dE Γ W ma)) (he : ∀ whole, isTrue a X.env whole = (do let v ← whole; standAt a.pos; holding [v] (truthy v)) := by intro _; rfl) : PT X a (dT Γ W (mTru ma)) :=
  pt_imp (pt_truth ha he) fun σ H Q h => by rw [hK]; exact tru_of h

/-! ### tests joined -/
def mtAnd (t u : MT) : MT := fun e st => (t e st).bind fun b s1 => if b then u e s1 else .ok false s1
def mtOr (t u : MT) : MT := fun e st => (t e st).bind fun b s1 => if b then .ok true s1 else u e s1
def mtNot (t : MT) : MT := fun e st => (t e st).bind fun b s1 => .ok (!b) s1
theorem mw_and1 (ha : PT X a (dT Γ W ta)) : PW X (.BoolOp .And [a] pos) (dT Γ W ta) := pw_and1 ha
theorem mw_or1 (ha : PT X a (dT Γ W ta)) : PW X (.BoolOp .Or [a] pos) (dT Γ W ta) := pw_or1 ha
theorem mw_and (ha : PT X a (dT Γ W ta)) (hb : PW X (.BoolOp .And (b :: rest) pos) (dT Γ W tb)) : PW X (.BoolOp .And (a :: b :: rest) pos) (dT Γ W (mtAnd ta tb)) := by
  refine pw_imp (pw_and ha hb) ?_
  rintro σ H Q ⟨μ, e, st, r, re, k⟩
  refine ⟨μ, e, st, r, re, KO.bind k fun x s1 μ1 H1 v _ e1 r1 q1 k1 => ?_⟩
  cases q1
  cases x with
  | true => exact ⟨μ1, e, s1, r1, re.mono e1, k1⟩
  | false => exact k1.ok r1 rfl
theorem mw_or (ha : PT X a (dT Γ W ta)) (hb : PW X (.BoolOp .Or (b :: rest) pos) (dT Γ W tb)) : PW X (.BoolOp .Or (a :: b :: rest) pos) (dT Γ W (mtOr ta tb)) := by
  refine pw_imp (pw_or ha hb) ?_
  rintro σ H Q ⟨μ, e, st, r, re, k⟩
  refine ⟨μ, e, st, r, re, KO.bind k fun x s1 μ1 H1 v _ e1 r1 q1 k1 => ?_⟩
  cases q1
  cases x with
  | true => exact k1.ok r1 rfl
  | false => exact ⟨μ1, e, s1, r1, re.mono e1, k1⟩
theorem mt_bool {op} {es : List Expr} (h : PW X (.BoolOp op es pos) (dT Γ W ta)) : PT X (.BoolOp op es pos) (dT Γ W ta) := h.pt
theorem mt_not (ha : PT X a (dT Γ W ta)) : PT X (.UnaryOp .Not a pos) (dT Γ W (mtNot ta)) := by
  refine pt_imp (pt_not ha) ?_
  rintro σ H Q ⟨μ, e, st, r, re, k⟩
  refine ⟨μ, e, st, r, re, KO.bind k fun x s1 μ1 H1 v _ e1 r1 q1 k1 => ?_⟩
  cases q1
  exact k1.ok r1 rfl

/-! ### values joined -/
def mAnd (ma mb : M) : M := fun e st => (ma e st).bind fun d s1 => match truD s1 d with
  | some true => mb e s1
  | some false => .ok d s1
  | none => .bad
def mOr (ma mb : M) : M := fun e st => (ma e st).bind fun d s1 => match truD s1 d with
  | some true => .ok d s1
  | some false => mb e s1
  | none => .bad
def mNot (ma : M) : M := fun e st => (ma e st).bind fun d s1 => match truD s1 d with
  | some k => .ok (.bl (!k)) s1
  | none => .bad
theorem m_one {op} (h : PE X a (dE Γ W ma)) : PE X (.BoolOp op [a] pos) (dE Γ W ma) := pe_one h
theorem m_and (hK : X.K = Γ.K) (ha : PE X a (dE Γ W ma)) (hb : PE X (.BoolOp .And (b :: rest) pos) (dE Γ W mb)) : PE X (.BoolOp .And (a :: b :: rest) pos) (dE Γ W (mAnd ma mb)) := by
  refine pe_imp (pe_andT ha hb) ?_
  rintro σ H Q ⟨μ, e, st, r, re, k⟩
  refine ⟨μ, e, st, r, re, KO.bind k fun x s1 μ1 H1 v _ e1 r1 q1 k1 => ?_⟩
  rw [hK]
  split at k1
  · rename_i ht
    exact ⟨true, truD_v r1 q1 ht, iteT ⟨μ1, e, s1, r1, re.mono e1, k1⟩⟩
  · rename_i ht
    exact ⟨false, truD_v r1 q1 ht, iteF (k1.ok r1 q1)⟩
  · exact k1.elim
theorem m_or (hK : X.K = Γ.K) (ha : PE X a (dE Γ W ma)) (hb : PE X (.BoolOp .Or (b :: rest) pos) (dE Γ W mb)) : PE X (.BoolOp .Or (a :: b :: rest) pos) (dE Γ W (mOr ma mb)) := by
  refine pe_imp (pe_orT ha hb) ?_
  rintro σ H Q ⟨μ, e, st, r, re, k⟩
  refine ⟨μ, e, st, r, re, KO.bind k fun x s1 μ1 H1 v _ e1 r1 q1 k1 => ?_⟩
  rw [hK]
  split at k1
  · rename_i ht
    exact ⟨true, truD_v r1 q1 ht, iteT (k1.ok r1 q1)⟩
  · rename_i ht
    exact ⟨false, truD_v r1 q1 ht, iteF ⟨μ1, e, s1, r1, re.mono e1, k1⟩⟩
  · exact k1.elim
theorem m_not (hK : X.K = Γ.K) (ha : PE X a (dE Γ W ma)) : PE X (.UnaryOp .Not a pos) (dE Γ W (mNot ma)) := by
  refine pe_imp (pe_notT ha) ?_
  rintro σ H Q ⟨μ, e, st, r, re, k⟩
  refine ⟨μ, e, st, r, re, KO.bind k fun x s1 μ1 H1 v _ e1 r1 q1 k1 => ?_⟩
  rw [hK]
  split at k1
  · rename_i k' ht
    exact ⟨k', truD_v r1 q1 ht, k1.ok r1 RD.bl⟩
  · exact k1.elim
def mIf (t : MT) (ma mb : M) : M := fun e st => (t e st).bind fun b s1 => if b then ma e s1 else mb e s1
theorem m_if (ht : PT X c (dT Γ W ta)) (ha : PE X a (dE Γ W ma)) (hb : PE X b (dE Γ W mb)) : PE X (.IfExp c a b pos) (dE Γ W (mIf ta ma mb)) := by
  refine pe_imp (pe_ifExp ht ha hb) ?_
  rintro σ H Q ⟨μ, e, st, r, re, k⟩
  refine ⟨μ, e, st, r, re, KO.bind k fun x s1 μ1 H1 v _ e1 r1 q1 k1 => ?_⟩
  cases q1
  cases x with
  | true => exact ⟨μ1, e, s1, r1, re.mono e1, k1⟩
  | false => exact ⟨μ1, e, s1, r1, re.mono e1, k1⟩
/-- a op b op' c -/
def mChain (f g : D → D → Sto → Res D) (ma mb mc : M) : M := fun e st => (ma e st).bind fun x s1 => (mb e s1).bind fun y s2 => (f x y s2).bind fun z s3 => match z with
  | .bl true => (mc e s3).bind fun w s4 => g y w s4
  | .bl false => .ok (.bl false) s3
  | _ => .bad
theorem chain2 {r r' : R2} {f g : D → D → Sto → Res D} (hf : OpD Γ r f) (hg : OpD Γ r' g) {σ : L2.St} {H : Hp} {Q : VK} (h : dE Γ W (mChain f g ma mb mc) σ H Q) : tChain r r' (dE Γ W ma) (dE Γ W mb) (dE Γ W mc) σ H Q := by
  obtain ⟨μ, e, st, rs, re, k⟩ := h
  refine ⟨μ, e, st, rs, re, KO.bind k fun x s1 μ1 H1 v _ e1 r1 q1 k1 => ?_⟩
  refine ⟨μ1, e, s1, r1, re.mono e1, KO.bind k1 fun y s2 μ2 H2 u _ e2 r2 q2 k2 => ?_⟩
  refine hf μ2 H2 s2 x y v u _ _ r2 (q1.mono e2) q2 (KO.bind k2 fun z s3 μ3 H3 w _ e3 r3 q3 k3 => ?_)
  split at k3
  · cases q3.ofBl
    refine ⟨true, rfl, iteT ⟨μ3, e, s3, r3, re.mono ((e1.trans e2).trans e3), KO.bind k3 fun w s4 μ4 H4 w' _ e4 r4 q4 k4 => ?_⟩⟩
    exact hg μ4 H4 s4 y w u w' Q _ r4 (q2.mono (e3.trans e4)) q4 k4
  · cases q3.ofBl
    exact ⟨false, rfl, iteF (k3.ok r3 RD.bl)⟩
  · exact k3.elim
theorem m_chain {op op' : CmpOp} {r r' : R2} {f g : D → D → Sto → Res D} (ho : OpR X (compareOp op) r) (hf : OpD Γ r f) (ho' : OpR X (compareOp op') r') (hg : OpD Γ r' g) (ha : PE X a (dE Γ W ma)) (hb : PE X b (dE Γ W mb)) (hc : PE X c (dE Γ W mc))
    (hm : lastMarks [op, op'] [b, c] = false := by with_unfolding_all rfl) : PE X (.Compare a [op, op'] [b, c] pos) (dE Γ W (mChain f g ma mb mc)) := pe_imp (pe_chain ho ho' ha hb hc hm) fun σ H Q h => chain2 hf hg h
theorem mt_chain {op op' : CmpOp} {r r' : R2} {f g : D → D → Sto → Res D} (ho : OpR X (compareOp op) r) (hf : OpD Γ r f) (ho' : OpR X (compareOp op') r') (hg : OpD Γ r' g) (ha : PE X a (dE Γ W ma)) (hb : PE X b (dE Γ W mb)) (hc : PE X c (dE Γ W mc))
    (hm : lastMarks [op, op'] [b, c] = false := by with_unfolding_all rfl) : PT X (.Compare a [op, op'] [b, c] pos) (dT Γ W (mB (mChain f g ma mb mc))) :=
  pt_imp (pt_chain ho ho' ha hb hc hm) fun σ H Q h => chain2 (W := W) hf hg (test_of h)
/-- unary minus -/
def negF (x : D) (st : Sto) : Res D := match x with
  | .int i => .ok (.int (-i)) st
  | _ => .bad
theorem m_neg (ha : PE X a (dE Γ W ma)) : PE X (.UnaryOp .USub a pos) (dE Γ W (m1 negF ma)) := by
  refine pe_imp (pe_un un_neg ha) ?_
  rintro σ H Q ⟨μ, e, st, r, re, k⟩
  refine ⟨μ, e, st, r, re, KO.bind k fun x s1 μ1 H1 v _ e1 r1 q1 k1 => ?_⟩
  unfold negF at k1
  split at k1
  · exact ⟨_, q1.ofInt, k1.ok r1 RD.int⟩
  · exact k1.elim
end
end Mp

set_option Elab.async false
set_option linter.all false
set_option maxRecDepth 100000
set_option maxHeartbeats 2000000
/-! Mp7: defs of the text: what they promise (no repr under way), how they are called. -/
namespace Mp
open PySem PySem.Spec PyProof.Rows L2

/-- a def's promise where no repr is under way -/
structure FnG (P : Program) (w : World) (K : PySem.W.Frag) (mg : Str → Option Value) (base : Heap) (k : Nat) (f : Addr) (fd : FuncData) (ps : List Str) (sp : Sp) : Prop where
  len : ∀ vs H Q E, sp vs H Q E → vs.length = ps.length
  run : ∀ (A : Around) (outer : List PySem.Env) (s : Shared) (H : Hp) (args : Args) (us : List Value) (vs : List V) (Q : VK) (E : XK), Room k A → A.guards = some [] → Env0 P w K mg base A outer s H →
    BindsTo s fd args (ps.zip us) → Vals vs us → sp vs H Q E → codeAny (model P w) A (.call (.ref f) args) (CR (L2.CX P w) outer P w H s Q E) s
section
variable {P : Program} {w : World} {K : PySem.W.Frag} {mg : Str → Option Value} {base : Heap}
/-- the body's context -/
abbrev bodyX (P : Program) (w : World) (K : PySem.W.Frag) (mg : Str → Option Value) (base : Heap) (N : List Str) (qual : Str) (st : Stmt) (f : Addr) (cdv : Value) (A : Around) (outer : List PySem.Env) (s : Shared) (H : Hp) (E : XK) : Cx :=
  cxOf (L2.CX P w) P w K mg base N qual (defScope st) f cdv A outer s H E
theorem Fun.okG {x qual : Str} {st : Stmt} {f : Addr} {fd : FuncData} {N ps : List Str} {k : Nat} {sp : Sp} (F : Fun K x qual st f fd) (S : FnScope N ps (defScope st)) (len : ∀ vs H Q E, sp vs H Q E → vs.length = ps.length)
    (body : ∀ (cdv : Value) (A : Around) (outer : List PySem.Env) (s : Shared) (H : Hp) (vs : List V) (Q : VK) (E : XK), Room k (bodyX P w K mg base N qual st f cdv A outer s H E).A → A.guards = some [] → sp vs H Q E →
      ∃ t, PSs (bodyX P w K mg base N qual st f cdv A outer s H E) (defBody st) t ∧ t { nx := fun _ H' => Q .non H', rt := Q } (L2.start N vs) H) : FnG P w K mg base (k + 1) f fd ps sp := by
  obtain ⟨oc, od, kV, doc, pm, an, cdv, ct, osl, rfl, lk, hcd⟩ := F.ex
  refine ⟨len, fun A outer s H args us vs Q E room gd env bnd rel want => ?_⟩
  have inK : K.In s.heap := env.mod.kin.keeps fun b o e => (env.bs b o e).1
  have noL : s.heap.NoLimit := env.mod.nolimit.keeps fun b o e => (env.bs b o e).1
  have kinds : ∀ y ∈ ps.zip us, (defScope st).names.lookup y.1 = some .local ∨ ((defScope st).names.lookup y.1 = some .cell ∧ ((cellsFrom (s.heap.objs.size + 1) (defScope st).names []).lookup y.1).isSome = true) := by
    rintro ⟨n, v⟩ hy
    have hp := S.par n (List.of_mem_zip hy).1
    cases hp with
    | inl q => exact Or.inl q
    | inr q => exact Or.inr ⟨q, PySem.W.cellsFrom_some _ _ _ (Or.inl q)⟩
  refine codeAny_call_function room.depth (inK _ _ lk) rfl S.co S.gen rfl (PySem.W.codeRec_of inK hcd) (bnd _ _ _ _ ?_)
  refine wpAny_newFunctionEnv_cells S.kind kinds fun env' he s1 x => ?_
  subst he
  refine ⟨noL.keeps x.toInCall.keep, codeAny_func ?_⟩
  obtain ⟨t, ht, ready⟩ := body cdv A outer s H vs Q E (room.deeper _) gd want
  have I := inv_start (E := E) (CX := L2.CX P w) S room.hd env (len _ _ _ _ want) rel x
  refine wpAny_mono (ht.run [] s1 (L2.start N vs) H _ I ready) (fun fl s' hs => ?_) (fun _ _ z => z)
  have ending : ∀ (σ' : L2.St) (H' : Hp) (v : V) (u : Value), Inv (bodyX P w K mg base N qual st f cdv A outer s H E) [] σ' H' s' → RelV v u → Q v H' → CE outer P w H s Q u s' := by
    intro σ' H' v u J rv q
    exact ⟨v, H', J.os, J.bare, J.base, J.hok, rv, q⟩
  cases fl with
  | ret u => obtain ⟨v, σ', H', J, rv, q⟩ := hs; exact ending σ' H' v u J rv q
  | next => obtain ⟨σ', H', J, q⟩ := hs; exact ending σ' H' .non .none J rfl q
  | brk => exact hs.elim fun _ z => z.elim fun _ z => z.2.elim
  | cont => exact hs.elim fun _ z => z.elim fun _ z => z.2.elim
end

/-! ### a def as a function on data -/
abbrev FS := List D → Sto → Res D
/-- it does on values what f does on data -/
def spOf (Γ : Cfg) (f : FS) : Sp := fun vs H Q E => ∃ μ ds st, RS Γ μ H st ∧ RDs Γ μ H ds vs ∧ KO Γ (RD Γ) μ H E (f ds st) Q
/-! ### data without locs; a call on the objects that it is handed alone -/
mutual
def noLoc : D → Bool
  | .loc _ => false
  | .tup l => noLocs l
  | .wt l => noLocs l
  | .fz l => noLocs l
  | _ => true
def noLocs : List D → Bool
  | [] => true
  | d :: l => noLoc d && noLocs l
end
def flat : Ob → Bool
  | .lst l => noLocs l
  | .dK l => l.all fun p => noLoc p.2
  | .dT l => l.all fun p => noLoc p.2
  | .ins _ _ => false
section
variable {Γ : Cfg} {μ μ' : List Addr} {H : Hp}
mutual
theorem RD.any (μ' : List Addr) : ∀ {d : D} {v : V}, RD Γ μ H d v → noLoc d = true → RD Γ μ' H d v
  | .non, _, h, _ => by unfold RD at h ⊢; exact h
  | .bl _, _, h, _ => by unfold RD at h ⊢; exact h
  | .int _, _, h, _ => by unfold RD at h ⊢; exact h
  | .str _, _, h, _ => by unfold RD at h ⊢; exact h
  | .tup l, _, h, q => by
    unfold RD at h ⊢
    obtain ⟨a, vs, h1, h2, h3⟩ := h
    exact ⟨a, vs, h1, h2, RDs.any μ' h3 (by unfold noLoc at q; exact q)⟩
  | .wt l, _, h, q => by
    unfold RD at h ⊢
    obtain ⟨a, vs, h1, h2, h3⟩ := h
    exact ⟨a, vs, h1, h2, RDs.any μ' h3 (by unfold noLoc at q; exact q)⟩
  | .fz l, _, h, q => by
    unfold RD at h ⊢
    obtain ⟨a, vs, h1, h2, h3⟩ := h
    exact ⟨a, vs, h1, h2, RDs.any μ' h3 (by unfold noLoc at q; exact q)⟩
  | .loc n, _, h, q => by unfold noLoc at q; cases q
  | .cst _, _, h, _ => by unfold RD at h ⊢; exact h
theorem RDs.any (μ' : List Addr) : ∀ {l : List D} {vs : List V}, RDs Γ μ H l vs → noLocs l = true → RDs Γ μ' H l vs
  | [], _, h, _ => by cases h.unnil; exact RDs.nil
  | d :: l, _, h, q => by
    obtain ⟨v, r, rfl, h2, h3⟩ := h.uncons
    unfold noLocs at q
    rw [Bool.and_eq_true] at q
    exact RDs.cons (RD.any μ' h2 q.1) (RDs.any μ' h3 q.2)
end
theorem RKs.anyM {κ : Type} (μ' : List Addr) : ∀ {l : List (κ × D)} {vs : List (κ × V)}, RKs Γ μ H l vs → (l.all fun p => noLoc p.2) = true → RKs Γ μ' H l vs
  | [], _, h, _ => h
  | p :: l, _, h, q => by
    obtain ⟨v, r, rfl, h2, h3⟩ := h
    rw [List.all_cons, Bool.and_eq_true] at q
    exact ⟨v, r, rfl, RD.any μ' h2 q.1, RKs.anyM μ' h3 q.2⟩
theorem RO.any (μ' : List Addr) {a : Addr} {o : Ob} (h : RO Γ μ H a o) (q : flat o = true) : RO Γ μ' H a o := by
  cases o with
  | lst l => obtain ⟨vs, h1, h2⟩ := h; exact ⟨vs, h1, h2.any μ' q⟩
  | dK l => obtain ⟨vs, h1, h2⟩ := h; exact ⟨vs, h1, h2.anyM μ' q⟩
  | dT l => obtain ⟨vs, h1, h2⟩ := h; exact ⟨vs, h1, h2.anyM μ' q⟩
  | ins c fs => cases q
theorem RX.any (μ' : List Addr) {x : Ex} {c : Value} {d : Option Addr} (h : RX Γ μ H x c d) (q : (x.fs.all fun p => noLoc p.2) = true) : RX Γ μ' H x c d := by
  obtain ⟨h1, dd, vs, h2, h3, h4⟩ := h
  exact ⟨h1, dd, vs, h2, h3, h4.anyM μ' q⟩
end
/-- the place of n in acc, behind acc where it is not there -/
def place (n : Nat) : List Nat → Nat
  | [] => 0
  | m :: l => if m = n then 0 else place n l + 1
def addN (n : Nat) (acc : List Nat) : List Nat := if n ∈ acc then acc else acc ++ [n]
/-- arguments over the objects that they name themselves; these objects' numbers -/
def normA (st : Sto) : List D → List Nat → Option (List D × List Nat)
  | [], acc => some ([], acc)
  | .loc n :: l, acc => match st[n]? with
    | some o => if flat o then match normA st l (addN n acc) with
        | some (r, a) => some (.loc (place n acc) :: r, a)
        | none => none
      else none
    | none => none
  | d :: l, acc => if noLoc d then match normA st l acc with
      | some (r, a) => some (d :: r, a)
      | none => none
    else none
/-- the objects, changed, back into the store -/
def putBack : List Nat → Sto → Sto → Option Sto
  | [], _, st => some st
  | n :: l, o :: s', st => if flat o then putBack l s' (st.set n o) else none
  | _ :: _, [], _ => none
def subSto (st : Sto) (acc : List Nat) : Sto := acc.filterMap fun n => st[n]?
def callN (f : FS) : FS := fun ds st => match normA st ds [] with
  | none => f ds st
  | some (ds', acc) => match f ds' (subSto st acc) with
    | .ok d s' => match putBack acc s' st with
      | none => .bad
      | some st' => match d with
        | .loc m => match acc[m]? with
          | some n => .ok (.loc n) st'
          | none => match s'[m]? with
            | some o => if flat o then .ok (.loc st'.length) (st' ++ [o]) else .bad
            | none => .bad
        | d => if noLoc d then .ok d st' else .bad
    | .exc x s' => match putBack acc s' st with
      | none => .bad
      | some st' => if x.fs.all fun p => noLoc p.2 then .exc x st' else .bad
    | .bad => .bad
section
variable {Γ : Cfg} {μ : List Addr} {H : Hp} {st : Sto}
/-- the addresses of the objects -/
def subMu (μ : List Addr) (acc : List Nat) : List Addr := acc.filterMap fun n => μ[n]?
theorem place_lt {n : Nat} : ∀ {acc : List Nat}, n ∈ acc → acc[place n acc]? = some n
  | m :: l, h => by
    unfold place
    by_cases e : m = n
    · rw [if_pos e]; simp [e]
    · rw [if_neg e]
      have h' : n ∈ l := by
        rcases List.mem_cons.mp h with q | q
        · exact absurd q.symm e
        · exact q
      simpa using place_lt h'
theorem place_new {n : Nat} : ∀ {acc : List Nat}, n ∉ acc → (acc ++ [n])[place n acc]? = some n
  | [], _ => by simp [place]
  | m :: l, h => by
    have e : ¬ m = n := fun z => h (by simp [z])
    unfold place
    rw [if_neg e]
    simpa using place_new (acc := l) fun z => h (List.mem_cons_of_mem _ z)
theorem normA_ok : ∀ {ds : List D} {acc : List Nat} {ds' : List D} {acc' : List Nat}, normA st ds acc = some (ds', acc') → acc.Nodup → (∀ n ∈ acc, ∃ o, st[n]? = some o ∧ flat o = true) →
    acc'.Nodup ∧ (∀ n ∈ acc', ∃ o, st[n]? = some o ∧ flat o = true) ∧ (∃ t, acc' = acc ++ t) ∧ ∀ {vs : List V} {μs : List Addr}, RDs Γ μ H ds vs → (∀ (i n : Nat), acc'[i]? = some n → ∀ a, μ[n]? = some a → μs[i]? = some a) → RDs Γ μs H ds' vs
  | [], acc, ds', acc', e, hn, hf => by
    cases e
    refine ⟨hn, hf, ⟨[], by simp⟩, fun h _ => ?_⟩
    cases h.unnil
    exact RDs.nil
  | d :: l, acc, ds', acc', e, hn, hf => by
    by_cases hl : ∃ n, d = .loc n
    · obtain ⟨n, rfl⟩ := hl
      unfold normA at e
      split at e
      · rename_i o ho
        split at e
        · rename_i hfo
          split at e
          · rename_i r a' e1
            cases e
            have hn' : (addN n acc).Nodup := by
              unfold addN
              split
              · exact hn
              · rename_i hm
                exact List.nodup_append.mpr ⟨hn, by simp, by simp; intro b hb z; subst z; exact hm hb⟩
            have hf' : ∀ k ∈ addN n acc, ∃ o, st[k]? = some o ∧ flat o = true := by
              intro k hk
              unfold addN at hk
              split at hk
              · exact hf k hk
              · rcases List.mem_append.mp hk with q | q
                · exact hf k q
                · have : k = n := by simpa using q
                  subst this
                  exact ⟨o, ho, hfo⟩
            obtain ⟨h1, h2, ⟨t, ht⟩, h4⟩ := normA_ok e1 hn' hf'
            have hat : acc'[place n acc]? = some n := by
              rw [ht]
              unfold addN
              split
              · rename_i hm
                have := place_lt hm
                rw [List.getElem?_append_left (List.getElem?_eq_some_iff.mp this).1]
                exact this
              · rename_i hm
                have := place_new hm
                rw [List.getElem?_append_left (List.getElem?_eq_some_iff.mp this).1]
                exact this
            refine ⟨h1, h2, ?_, fun {vs μs} hr hm => ?_⟩
            · unfold addN at ht
              split at ht
              · exact ⟨t, ht⟩
              · exact ⟨[n] ++ t, by rw [ht, List.append_assoc]⟩
            · obtain ⟨v, w, rfl, h5, h6⟩ := hr.uncons
              refine RDs.cons ?_ (h4 h6 hm)
              unfold RD at h5 ⊢
              obtain ⟨a, h7, h8⟩ := h5
              exact ⟨a, hm _ n hat a h7, h8⟩
          · cases e
        · cases e
      · cases e
    · have key : ∃ r, noLoc d = true ∧ normA st l acc = some (r, acc') ∧ ds' = d :: r := by
        cases d with
        | loc n => exact absurd ⟨n, rfl⟩ hl
        | _ =>
          unfold normA at e
          split at e
          · rename_i hd
            split at e
            · rename_i r a' e1
              cases e
              exact ⟨r, hd, e1, rfl⟩
            · cases e
          · cases e
      obtain ⟨r, hd, e1, rfl⟩ := key
      obtain ⟨h1, h2, h3, h4⟩ := normA_ok e1 hn hf
      refine ⟨h1, h2, h3, fun {vs μs} hr hm => ?_⟩
      obtain ⟨v, w, rfl, h5, h6⟩ := hr.uncons
      exact RDs.cons (h5.any μs hd) (h4 h6 hm)
theorem subSto_get : ∀ {acc : List Nat}, (∀ n ∈ acc, ∃ o, st[n]? = some o ∧ flat o = true) → (subSto st acc).length = acc.length ∧ ∀ (i n : Nat), acc[i]? = some n → (subSto st acc)[i]? = st[n]?
  | [], _ => ⟨rfl, fun i n h => by simp at h⟩
  | m :: l, h => by
    obtain ⟨o, ho, _⟩ := h m List.mem_cons_self
    obtain ⟨h1, h2⟩ := subSto_get (acc := l) fun n hn => h n (List.mem_cons_of_mem _ hn)
    have e : subSto st (m :: l) = o :: subSto st l := by unfold subSto; rw [List.filterMap_cons, ho]
    rw [e]
    refine ⟨by simp [h1], fun i n hi => ?_⟩
    cases i with
    | zero => simp at hi; subst hi; simp [ho]
    | succ i => simpa using h2 i n (by simpa using hi)
theorem subMu_get : ∀ {acc : List Nat}, (∀ n ∈ acc, ∃ a, μ[n]? = some a) → (subMu μ acc).length = acc.length ∧ ∀ (i n : Nat), acc[i]? = some n → (subMu μ acc)[i]? = μ[n]?
  | [], _ => ⟨rfl, fun i n h => by simp at h⟩
  | m :: l, h => by
    obtain ⟨o, ho⟩ := h m List.mem_cons_self
    obtain ⟨h1, h2⟩ := subMu_get (acc := l) fun n hn => h n (List.mem_cons_of_mem _ hn)
    have e : subMu μ (m :: l) = o :: subMu μ l := by unfold subMu; rw [List.filterMap_cons, ho]
    rw [e]
    refine ⟨by simp [h1], fun i n hi => ?_⟩
    cases i with
    | zero => simp at hi; subst hi; simp [ho]
    | succ i => simpa using h2 i n (by simpa using hi)
/-- the store behind: the objects of acc as they came back, the others as they were -/
theorem putBack_get : ∀ {acc : List Nat} {s' st st' : Sto}, putBack acc s' st = some st' → acc.Nodup → (∀ n ∈ acc, n < st.length) →
    st'.length = st.length ∧ (∀ n, n ∉ acc → st'[n]? = st[n]?) ∧ ∀ (i n : Nat), acc[i]? = some n → ∃ o, s'[i]? = some o ∧ flat o = true ∧ st'[n]? = some o
  | [], s', st, st', e, _, _ => by
    have e' : st = st' := by
      unfold putBack at e
      exact Option.some.inj e
    subst e'
    exact ⟨rfl, fun _ _ => rfl, fun i n h => by simp at h⟩
  | m :: l, [], st, st', e, _, _ => by unfold putBack at e; cases e
  | m :: l, o :: s', st, st', e, hn, hl => by
    unfold putBack at e
    split at e
    · rename_i ho
      obtain ⟨hm, hn'⟩ := List.nodup_cons.mp hn
      obtain ⟨h1, h2, h3⟩ := putBack_get e hn' fun n q => by simpa using hl n (List.mem_cons_of_mem _ q)
      refine ⟨by simpa using h1, fun n q => ?_, fun i n hi => ?_⟩
      · rw [h2 n fun z => q (List.mem_cons_of_mem _ z), List.getElem?_set_ne fun z => q (by simp [z])]
      · cases i with
        | zero =>
          simp at hi
          subst hi
          refine ⟨o, by simp, ho, ?_⟩
          rw [h2 m hm, List.getElem?_set_self (hl m List.mem_cons_self)]
        | succ i => simpa using h3 i n (by simpa using hi)
    · cases e
theorem mem_subMu {acc : List Nat} {a : Addr} (h : a ∈ subMu μ acc) : a ∈ μ := by
  obtain ⟨n, _, hn⟩ := List.mem_filterMap.mp h
  exact List.mem_of_getElem? hn
/-- a call on its own objects alone does what the whole one does -/
theorem callN_ok {f : FS} {vs : List V} {Q : VK} {E : XK} (h : spOf Γ (callN f) vs H Q E) (hc : Γ.cur = none) : spOf Γ f vs H Q E := by
  obtain ⟨μ, ds, st, r, rd, k⟩ := h
  unfold callN at k
  cases hn : normA st ds [] with
  | none => rw [hn] at k; exact ⟨μ, ds, st, r, rd, k⟩
  | some p =>
    obtain ⟨ds', acc⟩ := p
    rw [hn] at k
    dsimp only at k
    obtain ⟨nd, fl, _, cv⟩ := normA_ok (Γ := Γ) (μ := μ) (H := H) hn List.nodup_nil (fun n q => absurd q (by simp))
    have hlt : ∀ n ∈ acc, n < st.length := fun n q => by
      obtain ⟨o, ho, _⟩ := fl n q
      exact (List.getElem?_eq_some_iff.mp ho).1
    have hmu : ∀ n ∈ acc, ∃ a, μ[n]? = some a := fun n q => by
      obtain ⟨o, ho, _⟩ := fl n q
      obtain ⟨a, ha, _⟩ := r.ob n o ho
      exact ⟨a, ha⟩
    obtain ⟨sl, sg⟩ := subSto_get fl
    obtain ⟨ml, mg⟩ := subMu_get hmu
    have accOf : ∀ i : Nat, i < acc.length → ∃ n, acc[i]? = some n ∧ n ∈ acc := fun i hi => ⟨acc[i], by simp [hi], List.getElem_mem hi⟩
    have rs : RS Γ (subMu μ acc) H (subSto st acc) := by
      refine ⟨ml.trans sl.symm, fun i j a h1 h2 => ?_, fun i o ho => ?_, fun q hq => by rw [hc] at hq; cases hq⟩
      · have hi : i < acc.length := ml ▸ (List.getElem?_eq_some_iff.mp h1).1
        have hj : j < acc.length := ml ▸ (List.getElem?_eq_some_iff.mp h2).1
        obtain ⟨n, en, _⟩ := accOf i hi
        obtain ⟨m, em, _⟩ := accOf j hj
        rw [mg i n en] at h1
        rw [mg j m em] at h2
        have : n = m := r.inj n m a h1 h2
        subst this
        have h3 := (List.getElem?_eq_some_iff.mp en).2
        have h4 := (List.getElem?_eq_some_iff.mp em).2
        exact (List.getElem_inj nd).mp (h3.trans h4.symm)
      · have hi : i < acc.length := sl ▸ (List.getElem?_eq_some_iff.mp ho).1
        obtain ⟨n, en, mn⟩ := accOf i hi
        rw [sg i n en] at ho
        obtain ⟨a, ha, hr⟩ := r.ob n o ho
        obtain ⟨o', ho', hfl⟩ := fl n mn
        rw [ho] at ho'
        cases ho'
        exact ⟨a, by rw [mg i n en]; exact ha, hr.any _ hfl⟩
    refine ⟨subMu μ acc, ds', subSto st acc, rs, cv rd fun i n hi a ha => by rw [mg i n hi]; exact ha, ?_⟩
    -- the whole behind
    have back : ∀ (μ1 : List Addr) (H1 : Hp) (s' st' : Sto), Ext (subMu μ acc) H μ1 H1 → RS Γ μ1 H1 s' → putBack acc s' st = some st' → Ext μ H μ H1 ∧ RS Γ μ H1 st' := by
      intro μ1 H1 s' st' e1 r1 hp
      obtain ⟨p1, p2, p3⟩ := putBack_get hp nd hlt
      have e : Ext μ H μ H1 := ⟨fun _ _ h => h, e1.imm, fun a o ha hm => e1.frame a o ha fun z => hm (mem_subMu z), fun _ h => .inl h⟩
      refine ⟨e, by rw [p1]; exact r.len, r.inj, fun n o ho => ?_, fun q hq => by rw [hc] at hq; cases hq⟩
      by_cases hm : n ∈ acc
      · obtain ⟨i, hi, hin⟩ := List.mem_iff_getElem.mp hm
        have hi' : acc[i]? = some n := by rw [← hin]; simp [hi]
        obtain ⟨o', h1, h2, h3⟩ := p3 i n hi'
        rw [ho] at h3
        cases h3
        obtain ⟨a, ha, hr⟩ := r1.ob i o h1
        obtain ⟨a0, ha0⟩ := hmu n hm
        have := e1.pre i a0 (by rw [mg i n hi']; exact ha0)
        rw [ha] at this
        cases this
        exact ⟨a, ha0, hr.any _ h2⟩
      · rw [p2 n hm] at ho
        obtain ⟨a, ha, hr⟩ := r.ob n o ho
        refine ⟨a, ha, hr.mono e fun u hu => e1.frame a u hu fun z => ?_⟩
        obtain ⟨m, mm, hma⟩ := List.mem_filterMap.mp z
        have : n = m := r.inj n m a ha hma
        subst this
        exact hm mm
    cases hf : f ds' (subSto st acc) with
    | bad => rw [hf] at k; exact k
    | exc x s' =>
      rw [hf] at k
      dsimp only at k
      cases hp : putBack acc s' st with
      | none => rw [hp] at k; exact k.elim
      | some st' =>
        rw [hp] at k
        dsimp only at k
        split at k
        · rename_i hx
          intro μ1 H1 c d e1 r1 rx
          obtain ⟨e2, r2⟩ := back μ1 H1 s' st' e1 r1 hp
          exact k μ H1 c d e2 r2 (rx.any _ hx)
        · exact k.elim
    | ok d s' =>
      rw [hf] at k
      dsimp only at k
      cases hp : putBack acc s' st with
      | none => rw [hp] at k; exact k.elim
      | some st' =>
        rw [hp] at k
        dsimp only at k
        intro μ1 H1 v e1 r1 rv
        obtain ⟨e2, r2⟩ := back μ1 H1 s' st' e1 r1 hp
        by_cases hl : ∃ m, d = .loc m
        · obtain ⟨m, rfl⟩ := hl
          unfold RD at rv
          obtain ⟨a, ha, rfl⟩ := rv
          dsimp only at k
          cases hm : acc[m]? with
          | some n =>
            rw [hm] at k
            refine k μ H1 _ e2 r2 ?_
            obtain ⟨a0, ha0⟩ := hmu n (List.mem_of_getElem? hm)
            have := e1.pre m a0 (by rw [mg m n hm]; exact ha0)
            rw [ha] at this
            cases this
            unfold RD
            exact ⟨a, ha0, rfl⟩
          | none =>
            rw [hm] at k
            dsimp only at k
            cases ho : s'[m]? with
            | none => rw [ho] at k; exact k.elim
            | some o =>
              rw [ho] at k
              dsimp only at k
              split at k
              · rename_i hfo
                obtain ⟨a', ha', hr⟩ := r1.ob m o ho
                rw [ha] at ha'
                cases ha'
                have hm' : acc.length ≤ m := List.getElem?_eq_none_iff.mp hm
                have hH : H a = none := by
                  rcases e1.nw a (List.mem_of_getElem? ha) with q | q
                  · obtain ⟨j, hj, hja⟩ := List.mem_iff_getElem.mp q
                    have h1 : (subMu μ acc)[j]? = some a := by rw [← hja]; simp [hj]
                    have := r1.inj j m a (e1.pre j a h1) ha
                    subst this
                    omega
                  · exact q
                have hno : a ∉ μ := fun z => by
                  obtain ⟨j, hj, hja⟩ := List.mem_iff_getElem.mp z
                  have h1 : μ[j]? = some a := by rw [← hja]; simp [hj]
                  obtain ⟨o2, _, h2⟩ := r.mu_some h1
                  obtain ⟨u, h3, _⟩ := h2.here
                  rw [hH] at h3
                  cases h3
                have e3 : Wk μ H1 (μ ++ [a]) H1 := ⟨fun n b hb => by rw [List.getElem?_append_left (List.getElem?_eq_some_iff.mp hb).1]; exact hb, fun _ _ h _ => h⟩
                have e4 : Ext μ H (μ ++ [a]) H1 := ⟨fun n b hb => by rw [List.getElem?_append_left (List.getElem?_eq_some_iff.mp hb).1]; exact hb, e2.imm, e2.frame, fun b hb => by
                  rcases List.mem_append.mp hb with q | q
                  · exact .inl q
                  · have : b = a := by simpa using q
                    subst this
                    exact .inr hH⟩
                refine k (μ ++ [a]) H1 _ e4 ?_ (by unfold RD; exact ⟨a, by rw [← r2.len]; simp, rfl⟩)
                refine ⟨by simp [r2.len], fun i j b h1 h2 => ?_, fun n o' ho' => ?_, fun q hq => by rw [hc] at hq; cases hq⟩
                · have cases_ : ∀ (i : Nat), (μ ++ [a])[i]? = some b → μ[i]? = some b ∨ (i = μ.length ∧ b = a) := fun i hi => by
                    by_cases hl : i < μ.length
                    · rw [List.getElem?_append_left hl] at hi; exact .inl hi
                    · have h0 : i < (μ ++ [a]).length := (List.getElem?_eq_some_iff.mp hi).1
                      have h1 : i = μ.length := by simp at h0; omega
                      subst h1
                      simp at hi
                      exact .inr ⟨rfl, hi.symm⟩
                  rcases cases_ i h1 with q1 | ⟨q1, q1'⟩
                  · rcases cases_ j h2 with q2 | ⟨q2, q2'⟩
                    · exact r.inj i j b q1 q2
                    · subst q2'; exact absurd (List.mem_of_getElem? q1) hno
                  · rcases cases_ j h2 with q2 | ⟨q2, q2'⟩
                    · subst q1'; exact absurd (List.mem_of_getElem? q2) hno
                    · rw [q1, q2]
                · by_cases hl : n < st'.length
                  · rw [List.getElem?_append_left hl] at ho'
                    obtain ⟨b, hb, hbr⟩ := r2.ob n o' ho'
                    exact ⟨b, by rw [List.getElem?_append_left (List.getElem?_eq_some_iff.mp hb).1]; exact hb, hbr.monoW e3 fun _ h => h⟩
                  · have h0 : n < (st' ++ [o]).length := (List.getElem?_eq_some_iff.mp ho').1
                    have h1 : n = st'.length := by simp at h0; omega
                    subst h1
                    simp at ho'
                    subst ho'
                    exact ⟨a, by rw [← r2.len]; simp, hr.any _ hfo⟩
              · exact k.elim
        · have key : noLoc d = true ∧ KO Γ (RD Γ) μ H E (.ok d st') Q := by
            cases d with
            | loc m => exact absurd ⟨m, rfl⟩ hl
            | _ =>
              dsimp only at k
              split at k
              · rename_i hd
                exact ⟨hd, k⟩
              · exact k.elim
          exact key.2 μ H1 v e2 r2 (rv.any μ key.1)
end
/-! ### what a def leaves behind of its own is dropped -/
def trim (k : Nat) (d : D) (s : Sto) : D × Sto := if (s.take k).all flat then match d with
    | .loc m => if m < k then (.loc m, s.take k) else match s[m]? with
      | some o => if flat o then (.loc k, s.take k ++ [o]) else (.loc m, s)
      | none => (.loc m, s)
    | d => if noLoc d then (d, s.take k) else (d, s)
  else (d, s)
def trimX (k : Nat) (x : Ex) (s : Sto) : Sto := if ((s.take k).all flat && x.fs.all fun p => noLoc p.2) then s.take k else s
section
variable {Γ : Cfg} {μ μ1 : List Addr} {H H1 : Hp} {st s : Sto}
theorem take_mu (r : RS Γ μ H st) (e : Ext μ H μ1 H1) (r1 : RS Γ μ1 H1 s) (hc : Γ.cur = none) (hf : (s.take st.length).all flat = true) : Ext μ H μ H1 ∧ RS Γ μ H1 (s.take st.length) := by
  have hle : st.length ≤ s.length := by
    rw [← r.len, ← r1.len]
    cases h : μ.length with
    | zero => omega
    | succ n =>
      have hn : n < μ.length := by omega
      have := e.pre n μ[n] (by simp [hn])
      have := (List.getElem?_eq_some_iff.mp this).1
      omega
  refine ⟨⟨fun _ _ h => h, e.imm, e.frame, fun _ h => .inl h⟩, by simp [r.len, hle], r.inj, fun n o ho => ?_, fun q hq => by rw [hc] at hq; cases hq⟩
  have hn : n < st.length := by
    have := (List.getElem?_eq_some_iff.mp ho).1
    simp at this
    omega
  have hfo : flat o = true := List.all_eq_true.mp hf o (List.mem_of_getElem? ho)
  rw [List.getElem?_take_of_lt hn] at ho
  obtain ⟨a, ha, hr⟩ := r1.ob n o ho
  have hm : n < μ.length := by rw [r.len]; exact hn
  have h0 : μ[n]? = some μ[n] := by simp [hm]
  have := e.pre n μ[n] h0
  rw [ha] at this
  have : a = μ[n] := Option.some.inj this
  subst this
  exact ⟨_, h0, hr.any _ hfo⟩
theorem trim_ok {d : D} {v : V} (r : RS Γ μ H st) (e : Ext μ H μ1 H1) (r1 : RS Γ μ1 H1 s) (hc : Γ.cur = none) (rv : RD Γ μ1 H1 d v) :
    ∃ μ2, Ext μ H μ2 H1 ∧ RS Γ μ2 H1 (trim st.length d s).2 ∧ RD Γ μ2 H1 (trim st.length d s).1 v := by
  unfold trim
  split
  · rename_i hf
    obtain ⟨e2, r2⟩ := take_mu r e r1 hc hf
    split
    · rename_i m
      unfold RD at rv
      obtain ⟨a, ha, rfl⟩ := rv
      split
      · rename_i hm
        refine ⟨μ, e2, r2, ?_⟩
        have h1 : m < μ.length := by rw [r.len]; exact hm
        have h0 : μ[m]? = some μ[m] := by simp [h1]
        have := e.pre m μ[m] h0
        rw [ha] at this
        have : a = μ[m] := Option.some.inj this
        subst this
        unfold RD
        exact ⟨_, h0, rfl⟩
      · rename_i hm
        split
        · rename_i o ho
          split
          · rename_i hfo
            obtain ⟨a', ha', hr⟩ := r1.ob m o ho
            rw [ha] at ha'
            cases ha'
            have hno : a ∉ μ := fun z => by
              obtain ⟨j, hj, hja⟩ := List.mem_iff_getElem.mp z
              have h1 : μ[j]? = some a := by rw [← hja]; simp [hj]
              have := r1.inj j m a (e.pre j a h1) ha
              subst this
              rw [r.len] at hj
              exact hm hj
            have hH : H a = none := by
              rcases e.nw a (List.mem_of_getElem? ha) with q | q
              · exact absurd q hno
              · exact q
            have wk : Wk μ H1 (μ ++ [a]) H1 := ⟨fun n b hb => by rw [List.getElem?_append_left (List.getElem?_eq_some_iff.mp hb).1]; exact hb, fun _ _ h _ => h⟩
            refine ⟨μ ++ [a], ⟨wk.pre, e2.imm, e2.frame, fun b hb => ?_⟩, ⟨by simp [← r2.len], fun i j b h1 h2 => ?_, fun n o' ho' => ?_, fun q hq => by rw [hc] at hq; cases hq⟩, ?_⟩
            · rcases List.mem_append.mp hb with q | q
              · exact .inl q
              · have : b = a := by simpa using q
                subst this
                exact .inr hH
            · have at2 : ∀ (i : Nat), (μ ++ [a])[i]? = some b → μ[i]? = some b ∨ (i = μ.length ∧ b = a) := fun i hi => by
                by_cases hl : i < μ.length
                · rw [List.getElem?_append_left hl] at hi; exact .inl hi
                · have h0 : i < (μ ++ [a]).length := (List.getElem?_eq_some_iff.mp hi).1
                  have h1 : i = μ.length := by simp at h0; omega
                  subst h1
                  simp at hi
                  exact .inr ⟨rfl, hi.symm⟩
              rcases at2 i h1 with q1 | ⟨q1, q1'⟩
              · rcases at2 j h2 with q2 | ⟨q2, q2'⟩
                · exact r.inj i j b q1 q2
                · subst q2'; exact absurd (List.mem_of_getElem? q1) hno
              · rcases at2 j h2 with q2 | ⟨q2, q2'⟩
                · subst q1'; exact absurd (List.mem_of_getElem? q2) hno
                · rw [q1, q2]
            · by_cases hl : n < (s.take st.length).length
              · rw [List.getElem?_append_left hl] at ho'
                obtain ⟨b, hb, hbr⟩ := r2.ob n o' ho'
                exact ⟨b, wk.pre n b hb, hbr.monoW wk fun _ h => h⟩
              · have h0 : n < (s.take st.length ++ [o]).length := (List.getElem?_eq_some_iff.mp ho').1
                have h1 : n = (s.take st.length).length := by
                  rw [List.length_append] at h0
                  simp only [List.length_cons, List.length_nil] at h0
                  omega
                subst h1
                simp at ho'
                subst ho'
                exact ⟨a, by rw [← r2.len]; simp, hr.any _ hfo⟩
            · unfold RD
              exact ⟨a, by rw [← r.len]; simp, rfl⟩
          · exact ⟨μ1, e, r1, by unfold RD; exact ⟨a, ha, rfl⟩⟩
        · exact ⟨μ1, e, r1, by unfold RD; exact ⟨a, ha, rfl⟩⟩
    · split
      · rename_i hd
        exact ⟨μ, e2, r2, rv.any μ hd⟩
      · exact ⟨μ1, e, r1, rv⟩
  · exact ⟨μ1, e, r1, rv⟩
theorem trimX_ok {x : Ex} {c : Value} {d : Option Addr} (r : RS Γ μ H st) (e : Ext μ H μ1 H1) (r1 : RS Γ μ1 H1 s) (hc : Γ.cur = none) (rx : RX Γ μ1 H1 x c d) :
    ∃ μ2, Ext μ H μ2 H1 ∧ RS Γ μ2 H1 (trimX st.length x s) ∧ RX Γ μ2 H1 x c d := by
  unfold trimX
  split
  · rename_i hf
    rw [Bool.and_eq_true] at hf
    obtain ⟨e2, r2⟩ := take_mu r e r1 hc hf.1
    exact ⟨μ, e2, r2, rx.any μ hf.2⟩
  · exact ⟨μ1, e, r1, rx⟩
end
/-- a def's body as a function: nslots slots, n of them parameters -/
def runB (nslots n : Nat) (b : MS) : FS := fun ds st => if ds.length = n then match b (ds.map some ++ List.replicate (nslots - n) none) st with
    | .nx _ st' => .ok .non (trim st.length .non st').2
    | .rt d st' => .ok (trim st.length d st').1 (trim st.length d st').2
    | .exc x _ st' => .exc x (trimX st.length x st')
    | _ => .bad
  else .bad
theorem runB_len {n m : Nat} {b : MS} {Γ : Cfg} {vs : List V} {H : Hp} {Q : VK} {E : XK} (h : spOf Γ (runB m n b) vs H Q E) : vs.length = n := by
  obtain ⟨μ, ds, st, r, q, k⟩ := h
  rw [q.length]
  unfold runB at k
  split at k
  · assumption
  · exact k.elim
/-- what is wanted behind a statement -/
def KS (Γ : Cfg) (μ : List Addr) (H : Hp) (W : WX) (r : SR) (D : Ends) : Prop := match r with
  | .nx e' st' => ∀ μ' H' σ', Ext μ H μ' H' → RS Γ μ' H' st' → RE Γ μ' H' e' σ' → D.nx σ' H'
  | .rt d st' => ∀ μ' H' v, Ext μ H μ' H' → RS Γ μ' H' st' → RD Γ μ' H' d v → D.rt v H'
  | .bk e' st' => ∀ μ' H' σ', Ext μ H μ' H' → RS Γ μ' H' st' → RE Γ μ' H' e' σ' → D.bk σ' H'
  | .ct e' st' => ∀ μ' H' σ', Ext μ H μ' H' → RS Γ μ' H' st' → RE Γ μ' H' e' σ' → D.ct σ' H'
  | .exc x e' st' => ∀ μ' H' σ' c d, Ext μ H μ' H' → RS Γ μ' H' st' → RE Γ μ' H' e' σ' → RX Γ μ' H' x c d → W c d σ' H'
  | .bad => False
def dS (Γ : Cfg) (W : WX) (m : MS) : TS := fun D σ H => ∃ μ e st, RS Γ μ H st ∧ RE Γ μ H e σ ∧ KS Γ μ H W (m e st) D
theorem KS.mono {Γ : Cfg} {μ μ' : List Addr} {H H' : Hp} {W : WX} {r : SR} {D : Ends} (e : Ext μ H μ' H') (h : KS Γ μ H W r D) : KS Γ μ' H' W r D := by
  cases r with
  | nx e' st => exact fun μ1 H1 σ1 e1 => h μ1 H1 σ1 (e.trans e1)
  | rt d st => exact fun μ1 H1 σ1 e1 => h μ1 H1 σ1 (e.trans e1)
  | bk e' st => exact fun μ1 H1 σ1 e1 => h μ1 H1 σ1 (e.trans e1)
  | ct e' st => exact fun μ1 H1 σ1 e1 => h μ1 H1 σ1 (e.trans e1)
  | exc x e' st => exact fun μ1 H1 σ1 c d e1 => h μ1 H1 σ1 c d (e.trans e1)
  | bad => exact h
/-- from a result of an expression on -/
theorem KS.bind {α β : Type} {Γ : Cfg} {rel : List Addr → Hp → α → β → Prop} {μ : List Addr} {H : Hp} {W : WX} {r : Res α} {f : α → Sto → SR} {e : Slots} {σ : L2.St} {D : Ends} {Q1 : β → Hp → Prop} (re : RE Γ μ H e σ)
    (h : KS Γ μ H W (match r with | .ok a s => f a s | .exc x s => .exc x e s | .bad => .bad) D)
    (k : ∀ d st μ1 H1 v, r = .ok d st → Ext μ H μ1 H1 → RS Γ μ1 H1 st → rel μ1 H1 d v → KS Γ μ1 H1 W (f d st) D → Q1 v H1) : KO Γ rel μ H (fun c d H' => W c d σ H') r Q1 := by
  cases r with
  | ok d st => exact fun μ1 H1 v e1 r1 r2 => k d st μ1 H1 v rfl e1 r1 r2 (KS.mono e1 h)
  | exc x st => exact fun μ1 H1 c d e1 r1 r2 => h μ1 H1 σ c d e1 r1 (re.mono e1) r2
  | bad => exact h
section
variable {P : Program} {w : World} {K : PySem.W.Frag} {mg : Str → Option Value} {base : Heap} {Γ : Cfg}
/-- THE RULE for a def: its body's derivation, for any context -/
theorem Fun.okD {x qual : Str} {st : Stmt} {f : Addr} {fd : FuncData} {N ps : List Str} {k : Nat} {b : MS} (F : Fun K x qual st f fd) (S : FnScope N ps (defScope st)) (hc : Γ.cur = none)
    (body : ∀ (X : Cx), X.prog = P → X.w = w → X.K = K → X.mg = mg → X.base = base → X.N = N → X.env.scope = defScope st → X.calm = true → (∃ (f : Addr) (cdv : Value) (A : Around) (outer : List PySem.Env) (s : Shared) (H : Hp) (E : XK), X = bodyX P w K mg base N qual st f cdv A outer s H E) →
      Room k X.A → X.A.guards = some [] → ∀ W : WX, Takes X W → PSs X (defBody st) (dS Γ W b)) : FnG P w K mg base (k + 1) f fd ps (spOf Γ (runB N.length ps.length b)) := by
  refine Fun.okG F S (fun vs H Q E h => runB_len h) (fun cdv A outer s H vs Q E room gd want => ?_)
  refine ⟨_, body (bodyX P w K mg base N qual st f cdv A outer s H E) rfl rfl rfl rfl rfl rfl rfl rfl ⟨f, cdv, A, outer, s, H, E, rfl⟩ room gd (fun c d _ H' => E c d H') (takes_of rfl rfl rfl rfl), ?_⟩
  have hl := runB_len want
  obtain ⟨μ, ds, sto, rs, rd, ko⟩ := want
  have hd : ds.length = ps.length := by rw [← rd.length]; exact hl
  refine ⟨μ, ds.map some ++ List.replicate (N.length - ps.length) none, sto, rs, ⟨?_, fun q hq => by rw [hc] at hq; cases hq⟩, ?_⟩
  · unfold L2.start
    rw [hl]
    exact REl.args _ rd
  · unfold runB at ko
    rw [if_pos hd] at ko
    cases hb : b (ds.map some ++ List.replicate (N.length - ps.length) none) sto with
    | nx e' st' =>
      rw [hb] at ko
      intro μ' H' σ' e1 r1 _
      obtain ⟨μ2, e2, r2, _⟩ := trim_ok (d := .non) (v := .non) rs e1 r1 hc RD.non
      exact ko μ2 H' .non e2 r2 RD.non
    | rt d st' =>
      rw [hb] at ko
      intro μ' H' v e1 r1 rv
      obtain ⟨μ2, e2, r2, rv2⟩ := trim_ok rs e1 r1 hc rv
      exact ko μ2 H' v e2 r2 rv2
    | bk e' st' => rw [hb] at ko; exact ko.elim
    | ct e' st' => rw [hb] at ko; exact ko.elim
    | exc x' e' st' =>
      rw [hb] at ko
      intro μ' H' σ' c d e1 r1 _ rx
      obtain ⟨μ2, e2, r2, rx2⟩ := trimX_ok rs e1 r1 hc rx
      exact ko μ2 H' c d e2 r2 rx2
    | bad => rw [hb] at ko; exact ko.elim
end

/-! ### a call of a def by its name -/
section
variable {X : Cx} {Γ : Cfg} {W : WX} {k : Nat} {f : Addr} {fd : FuncData} {ps : List Str} {x : Str} {p pos : Pos} {e : Expr} {es : List Expr} {ma : MA}
theorem runG {sp : Sp} {E : XK} {pins : List (Addr × Obj)} {σ : L2.St} {H : Hp} {s : Shared} {Q : VK} {us : List Value} {vs : List V} (F : FnG X.prog X.w X.K X.mg X.base k f fd ps sp) (hr : Room k X.A) (hg : X.A.guards = some []) (hb : Binds X.K fd ps [])
    (hx : PassesAt (L2.CX X.prog X.w) X σ E) (I : Inv X pins σ H s) (r : Vals vs us) (h : sp vs H Q E) : wpAny (model X.prog X.w) X.A (call (.ref f) us) (EP X pins σ Q) X.xe s := by
  have hn : us.length = ps.length := r.length ▸ F.len _ _ _ _ h
  have b := hb s us I.kIn (by simpa using hn)
  rw [List.append_nil] at b
  have c := F.run X.A X.stack s H ⟨us, []⟩ us vs Q E hr hg I.env0 b r h
  refine wpAny_call (codeAny_mono c fun res s' hq => ?_)
  match res, hq with
  | .error err, hq => exact hx pins H s err s' I hq
  | .ok (.ret u), hq => exact I.after hq
  | .ok .next, hq => exact hq.elim
  | .ok .brk, hq => exact hq.elim
  | .ok .cont, hq => exact hq.elim
def mCall (f : FS) (ma : MA) : M := fun e st => (ma e st).bind fun l s1 => f l s1
theorem m_call {g : FS} (hcu : Γ.cur = none) (F : FnG X.prog X.w X.K X.mg X.base k f fd ps (spOf Γ g)) (hr : Room k X.A) (hgd : X.A.guards = some []) (hg : Gl X x) (hm : X.mg x = some (.ref f)) (hk : PySem.W.keepIn X.K (.ref f) = true) (hb : Binds X.K fd ps [])
    (tk : Takes X W) (ha : PA X (e :: es) (dA Γ W ma)) (hdb : (x == ("__debug__" : Str)) = false := by decide) (he : starEach (e :: es) X.env = (false, eval e X.env) :: starEach es X.env := by rfl)
    (hpl : (backTo pos (starEach es X.env)).any (·.1) = false := by rfl) : PE X (.Call (.Name x p) (e :: es) [] pos) (dE Γ W (mCall (callN g) ma)) := by
  refine ⟨fun pins s σ H Q I h => ?_⟩
  obtain ⟨μ, en, st, r, re, ko⟩ := h
  have first : dA Γ W ma σ H (fun vs H1 => ∀ (pins' : List (Addr × Obj)) (us : List Value) (s1 : Shared), pins' = pins → Inv X pins' σ H1 s1 → Vals vs us → wpAny (model X.prog X.w) X.A (call (.ref f) us) (EP X pins' σ Q) X.xe s1) := by
    refine ⟨μ, en, st, r, re, KO.bind ko fun l s1 μ1 H1 vs hl e1 r1 q1 k1 => ?_⟩
    intro pins' us s2 _ I1 rv
    exact runG F hr hgd hb (passAt tk σ) I1 rv (callN_ok ⟨μ1, l, s1, r1, q1, k1⟩ hcu)
  refine wpAny_Call_Name_kw (ld_glob I hg hm ?_ hdb)
  refine PySem.W.callWith_K (h₀ := X.base) I.ok.mod.kin hk (thn (ha.run pos pins s σ H _ I first) fun us s1 ⟨vs, H1, I1, rv, q⟩ => ⟨I1.kIn, ?_⟩) he hpl
  exact q pins us s1 rfl I1 rv
theorem m_call0 {g : FS} (hcu : Γ.cur = none) (F : FnG X.prog X.w X.K X.mg X.base k f fd ps (spOf Γ g)) (hr : Room k X.A) (hgd : X.A.guards = some []) (hg : Gl X x) (hm : X.mg x = some (.ref f)) (hk : PySem.W.keepIn X.K (.ref f) = true) (hb : Binds X.K fd ps [])
    (tk : Takes X W) (hdb : (x == ("__debug__" : Str)) = false := by decide) : PE X (.Call (.Name x p) [] [] pos) (dE Γ W (mCall (callN g) mNil)) := by
  refine ⟨fun pins s σ H Q I h => ?_⟩
  obtain ⟨μ, en, st, r, re, ko⟩ := h
  refine wpAny_Call_Name_kw (ld_glob I hg hm ?_ hdb)
  exact PySem.W.callWith_K0 I.kIn hk (runG (us := []) F hr hgd hb (passAt tk σ) I .nil (callN_ok ⟨μ, [], st, r, RDs.nil, ko⟩ hcu))
end
end Mp

set_option Elab.async false
set_option linter.all false
set_option maxRecDepth 100000
set_option maxHeartbeats 2000000
/-! Mp8: calls of built-ins, methods of lists and dicts. -/
namespace Mp
open PySem PySem.Spec PyProof.Rows L2

/-- a call's rule does on values what f does on data -/
def CallD (Γ : Cfg) (r : List V → Hp → VK → Prop) (f : FS) : Prop := ∀ (μ : List Addr) (H : Hp) (st : Sto) (ds : List D) (vs : List V) (Q : VK) (Wk : XK), RS Γ μ H st → RDs Γ μ H ds vs → KO Γ (RD Γ) μ H Wk (f ds st) Q → r vs H Q
/-- a method's rule -/
def MethD (Γ : Cfg) (T : String) (r : V → List V → Hp → VK → Prop) (f : D → List D → Sto → Res D) : Prop := ∀ (μ : List Addr) (H : Hp) (st : Sto) (x : D) (ds : List D) (v : V) (vs : List V) (Q : VK) (Wk : XK), RS Γ μ H st → RD Γ μ H x v → RDs Γ μ H ds vs → KO Γ (RD Γ) μ H Wk (f x ds st) Q → r v vs H Q
section
variable {X : Cx} {Γ : Cfg} {W : WX} {e : Expr} {es : List Expr} {ma : MA} {x : Str} {p pos : Pos} {id T : String}
theorem m_callB {r : List V → Hp → VK → Prop} {f : FS} (hc : CallR X (.builtin id) r) (hd : CallD Γ r f) (hg : Gl X x) (hm : X.mg x = none) (ha : PA X (e :: es) (dA Γ W ma)) (hv : bootBuiltins x = some (.builtin id) := by decide +kernel) (hn : x ≠ "__name__" := by decide) (hdb : (x == ("__debug__" : Str)) = false := by decide)
    (he : starEach (e :: es) X.env = (false, eval e X.env) :: starEach es X.env := by rfl) (hpl : (backTo pos (starEach es X.env)).any (·.1) = false := by rfl) : PE X (.Call (.Name x p) (e :: es) [] pos) (dE Γ W (mCall f ma)) := by
  refine pe_imp (pe_callB hc hg hm hv ha hn hdb he hpl) ?_
  rintro σ H Q ⟨μ, en, st, rs, re, k⟩
  refine ⟨μ, en, st, rs, re, KO.bind k fun l s1 μ1 H1 vs _ e1 r1 q1 k1 => ?_⟩
  exact hd μ1 H1 s1 l vs Q _ r1 q1 k1
theorem m_callT {r : List V → Hp → VK → Prop} {f : FS} (hc : CallR X (.type T) r) (hd : CallD Γ r f) (hg : Gl X x) (hm : X.mg x = none) (ha : PA X (e :: es) (dA Γ W ma)) (hv : bootBuiltins x = some (.type T) := by decide +kernel) (hn : x ≠ "__name__" := by decide) (hdb : (x == ("__debug__" : Str)) = false := by decide)
    (he : starEach (e :: es) X.env = (false, eval e X.env) :: starEach es X.env := by rfl) (hpl : (backTo pos (starEach es X.env)).any (·.1) = false := by rfl) : PE X (.Call (.Name x p) (e :: es) [] pos) (dE Γ W (mCall f ma)) := by
  refine pe_imp (pe_callTy hc hg hm hv ha hn hdb he hpl) ?_
  rintro σ H Q ⟨μ, en, st, rs, re, k⟩
  refine ⟨μ, en, st, rs, re, KO.bind k fun l s1 μ1 H1 vs _ e1 r1 q1 k1 => ?_⟩
  exact hd μ1 H1 s1 l vs Q _ r1 q1 k1
/-- o.m(..): the receiver's kind, then the arguments -/
def mMeth (ty : Sto → D → Bool) (f : D → List D → Sto → Res D) (mo : M) (ma : MA) : M := fun e st => (mo e st).bind fun x s1 => if ty s1 x then (ma e s1).bind fun l s2 => f x l s2 else .bad
def isL (st : Sto) (x : D) : Bool := match x with
  | .loc n => match st[n]? with
    | some (.lst _) => true
    | _ => false
  | _ => false
def isDi (st : Sto) (x : D) : Bool := match x with
  | .loc n => match st[n]? with
    | some (.dK _) => true
    | some (.dT _) => true
    | _ => false
  | _ => false
def isS (_ : Sto) (x : D) : Bool := match x with
  | .str _ => true
  | _ => false
theorem isL_ty {μ : List Addr} {H : Hp} {st : Sto} {x : D} {v : V} (r : RS Γ μ H st) (h : RD Γ μ H x v) (e : isL st x = true) : tyV Γ.K "list" v H := by
  unfold isL at e
  split at e
  · obtain ⟨a, h1, rfl⟩ := h.ofLoc
    obtain ⟨o, h2, h3⟩ := r.mu_some h1
    rw [h2] at e
    cases o with
    | lst l => obtain ⟨vs, h4, _⟩ := h3; exact .inl ⟨rfl, vs, .of h4⟩
    | _ => cases e
  · cases e
theorem isDi_ty {μ : List Addr} {H : Hp} {st : Sto} {x : D} {v : V} (r : RS Γ μ H st) (h : RD Γ μ H x v) (e : isDi st x = true) : tyV Γ.K "dict" v H := by
  unfold isDi at e
  split at e
  · obtain ⟨a, h1, rfl⟩ := h.ofLoc
    obtain ⟨o, h2, h3⟩ := r.mu_some h1
    rw [h2] at e
    cases o with
    | dK l => obtain ⟨vs, h4, _⟩ := h3; exact .inr (.inr (.inl ⟨rfl, .inl ⟨vs, h4⟩⟩))
    | dT l => obtain ⟨vs, h4, _⟩ := h3; exact .inr (.inr (.inl ⟨rfl, .inr ⟨vs, h4⟩⟩))
    | _ => cases e
  · cases e
theorem isS_ty {μ : List Addr} {H : Hp} {st : Sto} {x : D} {v : V} (r : RS Γ μ H st) (h : RD Γ μ H x v) (e : isS st x = true) : tyV Γ.K "str" v H := by
  cases x with
  | str s => cases h.ofStr.1; rfl
  | _ => cases e
theorem m_meth0 {o : Expr} {mo : M} {name : Str} {apos : Pos} {r : V → List V → Hp → VK → Prop} {f : D → List D → Sto → Res D} {ty : Sto → D → Bool} (hK : X.K = Γ.K) (pa : PlainAttrs T) (slot : Slot T name id) (hty : typeOf (.builtin id) = pure (.type "method_descriptor"))
    (hm : MtR X id r) (ht : ∀ {μ H st x v}, RS Γ μ H st → RD Γ μ H x v → ty st x = true → tyV Γ.K T v H) (hd : MethD Γ T r f) (ho : PE X o (dE Γ W mo))
    (hbase : attributeBase o name X.env (eval o X.env) = eval o X.env := by rfl) (hline : (apos.endLine == pos.line) = true := by rfl) : PE X (.Call (.Attribute o name apos) [] [] pos) (dE Γ W (mMeth ty f mo mNil)) := by
  refine pe_imp (pe_bm0 pa slot hty hm ho hbase hline) ?_
  rintro σ H Q ⟨μ, en, st, rs, re, k⟩
  refine ⟨μ, en, st, rs, re, KO.bind k fun y s1 μ1 H1 v _ e1 r1 q1 k1 => ?_⟩
  split at k1
  · rename_i h
    rw [hK]
    exact ⟨ht r1 q1 h, hd μ1 H1 s1 y [] v [] Q _ r1 q1 RDs.nil k1⟩
  · exact k1.elim
theorem m_meth {o : Expr} {mo : M} {name : Str} {apos : Pos} {r : V → List V → Hp → VK → Prop} {f : D → List D → Sto → Res D} {ty : Sto → D → Bool} (hK : X.K = Γ.K) (pa : PlainAttrs T) (slot : Slot T name id) (hty : typeOf (.builtin id) = pure (.type "method_descriptor"))
    (hm : MtR X id r) (ht : ∀ {μ H st x v}, RS Γ μ H st → RD Γ μ H x v → ty st x = true → tyV Γ.K T v H) (hd : MethD Γ T r f) (ho : PE X o (dE Γ W mo)) (ha : PA X (e :: es) (dA Γ W ma))
    (hbase : attributeBase o name X.env (eval o X.env) = eval o X.env := by rfl)
    (hfew : ((backTo pos (starEach (e :: es) X.env)).all (fun x => !x.1) && (backToKw pos (keywordEach [] X.env)).all (fun x => x.1.isSome) && decide ((e :: es).length + ([] : List Keyword).length + (if ([] : List Keyword).isEmpty then 0 else 1) < 30)) = true := by rfl)
    (hline : (apos.endLine == pos.line) = true := by rfl) (hs : starEach (e :: es) X.env = (false, eval e X.env) :: starEach es X.env := by rfl) (hplain : (backTo pos (starEach es X.env)).any (·.1) = false := by rfl) :
    PE X (.Call (.Attribute o name apos) (e :: es) [] pos) (dE Γ W (mMeth ty f mo ma)) := by
  refine pe_imp (pe_bm pa slot hty hm ho ha hbase hfew hline hs hplain) ?_
  rintro σ H Q ⟨μ, en, st, rs, re, k⟩
  refine ⟨μ, en, st, rs, re, KO.bind k fun y s1 μ1 H1 v _ e1 r1 q1 k1 => ?_⟩
  split at k1
  · rename_i h
    rw [hK]
    refine ⟨ht r1 q1 h, μ1, en, s1, r1, re.mono e1, KO.bind k1 fun l s2 μ2 H2 vs _ e2 r2 q2 k2 => ?_⟩
    exact hd μ2 H2 s2 y l v vs Q _ r2 (q1.mono e2) q2 k2
  · exact k1.elim

/-! ### methods of lists -/
theorem KO.put {μ : List Addr} {H : Hp} {Wk : XK} {st : Sto} {n : Nat} {a : Addr} {o : HO} {ob : Ob} {d : D} {v : V} {Q : VK} (k : KO Γ (RD Γ) μ H Wk (.ok d (st.set n ob)) Q) (r : RS Γ μ H st) (hn : μ[n]? = some a) (h : Ext μ H μ (upd H a o) → RO Γ μ (upd H a o) a ob) (hv : Ext μ H μ (upd H a o) → RD Γ μ (upd H a o) d v) : Q v (upd H a o) := by
  obtain ⟨o0, h0, h1⟩ := r.mu_some hn
  obtain ⟨u, h2, h3⟩ := h1.here
  have e : Ext μ H μ (upd H a o) := Ext.put h2 h3 hn
  obtain ⟨r', _⟩ := r.put hn (h e)
  exact k μ _ v e r' (hv e)
def appF (x : D) (ds : List D) (st : Sto) : Res D := match x, ds with
  | .loc n, [d] => match st[n]? with
    | some (.lst l) => if l.length < sizeLine then .ok .non (st.set n (.lst (l ++ [d]))) else .bad
    | _ => .bad
  | _, _ => .bad
theorem md_append : MethD Γ "list" rAppend appF := by
  intro μ H st x ds v vs Q Wk r rx rds k
  unfold appF at k
  split at k
  · rename_i n d
    split at k
    · rename_i l hl
      split at k
      · rename_i hz
        obtain ⟨a, h1, rfl⟩ := rx.ofLoc
        obtain ⟨u, w, rfl, h2, h3⟩ := rds.uncons
        cases h3.unnil
        obtain ⟨o, h4, h5⟩ := r.mu_some h1
        rw [hl] at h4
        cases h4
        obtain ⟨us, h6, h7⟩ := h5
        refine ⟨a, us, u, rfl, rfl, h6, by rw [h7.length]; exact hz, ?_⟩
        exact k.put r h1 (fun e => ⟨_, upd_same, (h7.mono e).append (RDs.cons (h2.mono e) RDs.nil)⟩) (fun _ => RD.non)
      · exact k.elim
    · exact k.elim
  · exact k.elim
def popF (x : D) (ds : List D) (st : Sto) : Res D := match x, ds with
  | .loc n, [] => match st[n]? with
    | some (.lst l) => match l[l.length - 1]? with
      | some d => .ok d (st.set n (.lst l.dropLast))
      | none => .bad
    | _ => .bad
  | _, _ => .bad
theorem md_pop : MethD Γ "list" rPop popF := by
  intro μ H st x ds v vs Q Wk r rx rds k
  unfold popF at k
  split at k
  · rename_i n
    split at k
    · rename_i l hl
      split at k
      · rename_i d hd
        obtain ⟨a, h1, rfl⟩ := rx.ofLoc
        cases rds.unnil
        obtain ⟨o, h4, h5⟩ := r.mu_some h1
        rw [hl] at h4
        cases h4
        obtain ⟨us, h6, h7⟩ := h5
        obtain ⟨u, h8, h9⟩ := h7.get hd
        refine ⟨a, us, u, rfl, rfl, h6, by rw [h7.length]; exact h8, ?_⟩
        exact k.put r h1 (fun e => ⟨_, upd_same, (h7.mono e).dropLast⟩) (fun e => h9.mono e)
      · exact k.elim
    · exact k.elim
  · exact k.elim

/-! ### methods of dicts -/
def rGet1 : V → List V → Hp → VK → Prop := fun x xs H Q => ∃ a y o, x = .ref a ∧ xs = [y] ∧ DGet H a y o ∧ Q (o.getD .non) H
def rGet2 : V → List V → Hp → VK → Prop := fun x xs H Q => ∃ a y z o, x = .ref a ∧ xs = [y, z] ∧ DGet H a y o ∧ Q (o.getD z) H
def rGet : V → List V → Hp → VK → Prop := fun x xs H Q => rGet1 x xs H Q ∨ rGet2 x xs H Q
theorem mt_dget (hu : X.A.units + 1100 < cLine) : MtR X "dict.get" rGet := by
  intro pins s σ H x xs v us Q I rx rxs h
  rcases h with ⟨a, y, o, rfl, rfl, g, q⟩ | ⟨a, y, z, o, rfl, rfl, g, q⟩
  · cases rx
    obtain ⟨u, rfl, ry⟩ := vals1 rxs
    exact d_get1 (by omega) I g ry fun w' s' I' rw' => ⟨_, H, I', rw', q⟩
  · cases rx
    obtain ⟨u, u', rfl, ry, rz⟩ := vals2 rxs
    exact d_get2 (by omega) I g ry rz fun w' s' I' rw' => ⟨_, H, I', rw', q⟩
def getF (x : D) (ds : List D) (st : Sto) : Res D := match ds with
  | [y] => match dictAt st x y with
    | some o => .ok (o.getD .non) st
    | none => .bad
  | [y, z] => match dictAt st x y with
    | some o => .ok (o.getD z) st
    | none => .bad
  | _ => .bad
theorem md_get : MethD Γ "dict" rGet getF := by
  intro μ H st x ds v vs Q Wk r rx rds k
  unfold getF at k
  split at k
  · rename_i y
    obtain ⟨u, w, rfl, h2, h3⟩ := rds.uncons
    cases h3.unnil
    split at k
    · rename_i o ho
      obtain ⟨a, ov, rfl, g, h4, h5⟩ := dictAt_get r rx h2 ho
      refine .inl ⟨a, u, ov, rfl, rfl, g, k.ok r ?_⟩
      cases o with
      | none => rw [h5 rfl]; exact RD.non
      | some d => obtain ⟨z, rfl, hz⟩ := h4 d rfl; exact hz
    · exact k.elim
  · rename_i y z
    obtain ⟨u, w, rfl, h2, h3⟩ := rds.uncons
    obtain ⟨u', w, rfl, h6, h7⟩ := h3.uncons
    cases h7.unnil
    split at k
    · rename_i o ho
      obtain ⟨a, ov, rfl, g, h4, h5⟩ := dictAt_get r rx h2 ho
      refine .inr ⟨a, u, u', ov, rfl, rfl, g, k.ok r ?_⟩
      cases o with
      | none => rw [h5 rfl]; exact h6
      | some d => obtain ⟨z, rfl, hz⟩ := h4 d rfl; exact hz
    · exact k.elim
  · exact k.elim
end
end Mp

set_option Elab.async false
set_option linter.all false
set_option maxRecDepth 100000
set_option maxHeartbeats 2000000
/-! Mp9: len, abs, int, str, tuple, list, isinstance, repr == repr. -/
namespace Mp
open PySem PySem.Spec PyProof.Rows L2
section
variable {X : Cx} {Γ : Cfg} {W : WX}
/-! ### len -/
def rLenA (K : PySem.W.Frag) : List V → Hp → VK → Prop := fun xs H Q => ((∃ p ys, xs = [.ref p] ∧ (SqL K H p ys ∨ SqT K H p ys) ∧ Q (.int ys.length) H) ∨ (∃ z, xs = [.str z] ∧ z.length ≤ sizeLine ∧ Q (.int z.length) H)) ∨
  ((∃ a kvs, xs = [.ref a] ∧ Rd H a (.dK kvs) ∧ Q (.int kvs.length) H) ∨ rLenT xs H Q)
theorem call_lenK : CallR X (.builtin "len") (fun xs H Q => ∃ a kvs, xs = [.ref a] ∧ Rd H a (.dK kvs) ∧ Q (.int kvs.length) H) := by
  intro pins s σ H xs us Q I r h
  obtain ⟨a, kvs, rfl, e, q⟩ := h
  rw [Vals.ref1 r]
  exact d_len I e fun t s' I' => ⟨.int kvs.length, H, I', ⟨t, rfl⟩, q⟩
theorem call_lenA : CallR X (.builtin "len") (rLenA X.K) := (call_len_seq.or call_len_str).or (call_lenK.or call_len_dT)
def lenD (st : Sto) (x : D) : Option Nat := match x with
  | .tup l => some l.length
  | .wt l => some l.length
  | .fz l => some l.length
  | .str s => if szOk s.length then some s.length else none
  | .loc n => match st[n]? with
    | some (.lst l) => some l.length
    | some (.dK l) => some l.length
    | some (.dT l) => some l.length
    | _ => none
  | _ => none
def lenF (ds : List D) (st : Sto) : Res D := match ds with
  | [x] => match lenD st x with
    | some n => .ok (.int n) st
    | none => .bad
  | _ => .bad
theorem cd_len : CallD Γ (rLenA Γ.K) lenF := by
  intro μ H st ds vs Q Wk r rds k
  unfold lenF at k
  split at k
  · rename_i x
    obtain ⟨v, w, rfl, hx, h3⟩ := rds.uncons
    cases h3.unnil
    split at k
    · rename_i n hn
      cases x with
      | tup l => cases hn; obtain ⟨a, us, rfl, h4, h5⟩ := hx.ofTup; exact .inl (.inl ⟨a, us, rfl, .inr (.of h4), by rw [h5.length]; exact k.ok r RD.int⟩)
      | wt l => cases hn; obtain ⟨a, us, rfl, h4, h5⟩ := hx.ofWt; exact .inl (.inl ⟨a, us, rfl, .inr h4, by rw [h5.length]; exact k.ok r RD.int⟩)
      | fz l => cases hn; obtain ⟨a, us, rfl, h4, h5⟩ := hx.ofFz; exact .inl (.inl ⟨a, us, rfl, .inl h4.sq, by rw [h5.length]; exact k.ok r RD.int⟩)
      | str s =>
        replace hn : (if szOk s.length then some s.length else none) = some n := hn
        split at hn
        · rename_i hz
          cases hn
          cases hx.ofStr.1
          exact .inl (.inr ⟨s, rfl, szOk_le hz, k.ok r RD.int⟩)
        · cases hn
      | loc m =>
        obtain ⟨a, h1, rfl⟩ := hx.ofLoc
        obtain ⟨o, h2, h3⟩ := r.mu_some h1
        replace hn : (match st[m]? with
          | some (.lst l) => some l.length
          | some (.dK l) => some l.length
          | some (.dT l) => some l.length
          | _ => none) = some n := hn
        rw [h2] at hn
        cases o with
        | lst l => cases hn; obtain ⟨us, h4, h5⟩ := h3; exact .inl (.inl ⟨a, us, rfl, .inl (.of h4), by rw [h5.length]; exact k.ok r RD.int⟩)
        | dK l => cases hn; obtain ⟨us, h4, h5⟩ := h3; exact .inr (.inl ⟨a, us, rfl, .inl h4, by rw [h5.length]; exact k.ok r RD.int⟩)
        | dT l => cases hn; obtain ⟨us, h4, h5⟩ := h3; exact .inr (.inr ⟨a, us, rfl, h4, by rw [h5.length]; exact k.ok r RD.int⟩)
        | ins c fs => cases hn
      | _ => cases hn
    · exact k.elim
  · exact k.elim
/-! ### abs, int -/
def absF (ds : List D) (st : Sto) : Res D := match ds with
  | [.int i] => .ok (.int (if i < 0 then -i else i)) st
  | _ => .bad
theorem cd_abs : CallD Γ (fun xs H Q => ∃ i, xs = [.int i] ∧ Q (.int (if i < 0 then -i else i)) H) absF := by
  intro μ H st ds vs Q Wk r rds k
  unfold absF at k
  split at k
  · obtain ⟨v, w, rfl, hx, h3⟩ := rds.uncons
    cases h3.unnil
    cases hx.ofInt
    exact ⟨_, rfl, k.ok r RD.int⟩
  · exact k.elim
def intCallF (ds : List D) (st : Sto) : Res D := match ds with
  | [.int i] => .ok (.int i) st
  | [.bl b] => .ok (.int (if b then 1 else 0)) st
  | _ => .bad
theorem cd_int : CallD Γ (fun xs H Q => (∃ i, xs = [.int i] ∧ Q (.int i) H) ∨ ∃ k, xs = [.bl k] ∧ Q (.int (if k then 1 else 0)) H) intCallF := by
  intro μ H st ds vs Q Wk r rds k
  unfold intCallF at k
  split at k
  · obtain ⟨v, w, rfl, hx, h3⟩ := rds.uncons
    cases h3.unnil
    cases hx.ofInt
    exact .inl ⟨_, rfl, k.ok r RD.int⟩
  · obtain ⟨v, w, rfl, hx, h3⟩ := rds.uncons
    cases h3.unnil
    cases hx.ofBl
    exact .inr ⟨_, rfl, k.ok r RD.int⟩
  · exact k.elim
theorem strOk_of (s : String) : strOk (Str.ofString s) = true := by
  show ((Str.ofString s).cps).all (fun c => decide (c < 0x110000)) = true
  rw [Array.all_eq_true']
  intro c hc
  have hc' : c ∈ (Str.ofString s).cps.toList := by simpa using hc
  have e : (Str.ofString s).cps.toList = s.toList.map Char.toNat := by rw [Str.ofString_eq_toList]
  rw [e] at hc'
  obtain ⟨ch, _, rfl⟩ := List.mem_map.mp hc'
  have := ch.valid
  show decide (ch.val.toNat < 0x110000) = true
  refine decide_eq_true ?_
  rcases this with h | ⟨_, h⟩
  · omega
  · omega
def strCallF (ds : List D) (st : Sto) : Res D := match ds with
  | [.int i] => if i.natAbs.log2 < 1920 then .ok (.str (toString i)) st else .bad
  | _ => .bad
theorem cd_str : CallD Γ (fun xs H Q => ∃ i, xs = [.int i] ∧ i.natAbs.log2 < 1920 ∧ Q (.str (toString i)) H) strCallF := by
  intro μ H st ds vs Q Wk r rds k
  unfold strCallF at k
  split at k
  · obtain ⟨v, w, rfl, hx, h3⟩ := rds.uncons
    cases h3.unnil
    cases hx.ofInt
    split at k
    · rename_i h
      exact ⟨_, rfl, h, k.ok r (RD.str (strOk_of _))⟩
    · exact k.elim
  · exact k.elim
/-! ### tuple(x), list(x) -/
def tupleF (ds : List D) (st : Sto) : Res D := match ds with
  | [.tup l] => .ok (.tup l) st
  | [.wt l] => .ok (.wt l) st
  | [x] => match lstOf st x with
    | some l => .ok (.tup l) st
    | none => .bad
  | _ => .bad
theorem cd_tuple : CallD Γ (fun xs H Q => ∃ p ys, xs = [.ref p] ∧ ((SqL Γ.K H p ys ∧ ∀ l, H l = none → Q (.ref l) (upd H l (.tup ys))) ∨ (SqT Γ.K H p ys ∧ Q (.ref p) H))) tupleF := by
  intro μ H st ds vs Q Wk r rds k
  unfold tupleF at k
  split at k
  · obtain ⟨v, w, rfl, hx, h3⟩ := rds.uncons
    cases h3.unnil
    obtain ⟨a, us, rfl, h4, h5⟩ := id hx.ofTup
    exact ⟨a, us, rfl, .inr ⟨.of h4, k.ok r hx⟩⟩
  · obtain ⟨v, w, rfl, hx, h3⟩ := rds.uncons
    cases h3.unnil
    obtain ⟨a, us, rfl, h4, h5⟩ := id hx.ofWt
    exact ⟨a, us, rfl, .inr ⟨h4, k.ok r hx⟩⟩
  · obtain ⟨v, w, rfl, hx, h3⟩ := rds.uncons
    cases h3.unnil
    split at k
    · rename_i l hl
      obtain ⟨n, a, us, _, _, rfl, h4, h5⟩ := lstOf_rd r hx hl
      exact ⟨a, us, rfl, .inl ⟨.of h4, fun z hz => k.tup r h5 z hz⟩⟩
    · exact k.elim
  · exact k.elim
def listF (ds : List D) (st : Sto) : Res D := match ds with
  | [x] => match seqOf st x with
    | some l => .ok (.loc st.length) (st ++ [.lst l])
    | none => .bad
  | _ => .bad
theorem seqOf_rd {μ : List Addr} {H : Hp} {st : Sto} {x : D} {l : List D} {v : V} (r : RS Γ μ H st) (h : RD Γ μ H x v) (e : seqOf st x = some l) : ∃ a vs, v = .ref a ∧ (SqL Γ.K H a vs ∨ SqT Γ.K H a vs) ∧ RDs Γ μ H l vs := by
  cases x with
  | tup l' => cases e; obtain ⟨a, vs, rfl, h1, h2⟩ := h.ofTup; exact ⟨a, vs, rfl, .inr (.of h1), h2⟩
  | wt l' => cases e; obtain ⟨a, vs, rfl, h1, h2⟩ := h.ofWt; exact ⟨a, vs, rfl, .inr h1, h2⟩
  | fz l' => cases e; obtain ⟨a, vs, rfl, h1, h2⟩ := h.ofFz; exact ⟨a, vs, rfl, .inl h1.sq, h2⟩
  | loc n =>
    obtain ⟨_, a, vs, _, _, rfl, h1, h2⟩ := lstOf_rd r h (show lstOf st (.loc n) = some l from e)
    exact ⟨a, vs, rfl, .inl (.of h1), h2⟩
  | _ => cases e
theorem cd_list : CallD Γ (fun xs H Q => ∃ p ys, xs = [.ref p] ∧ (SqL Γ.K H p ys ∨ SqT Γ.K H p ys) ∧ ∀ l, H l = none → Q (.ref l) (upd H l (.lst ys))) listF := by
  intro μ H st ds vs Q Wk r rds k
  unfold listF at k
  split at k
  · obtain ⟨v, w, rfl, hx, h3⟩ := rds.uncons
    cases h3.unnil
    split at k
    · rename_i l hl
      obtain ⟨a, us, rfl, h4, h5⟩ := seqOf_rd r hx hl
      exact ⟨a, us, rfl, h4, fun z hz => k.lst r h5 z hz⟩
    · exact k.elim
  · exact k.elim

/-! ### isinstance(x, T), T a built-in class -/
def tyName (st : Sto) : D → Option String
  | .non => some "NoneType"
  | .bl _ => some "bool"
  | .int _ => some "int"
  | .str _ => some "str"
  | .tup _ => some "tuple"
  | .loc n => match st[n]? with
    | some (.lst _) => some "list"
    | some (.dK _) => some "dict"
    | some (.dT _) => some "dict"
    | _ => none
  | _ => none
/-- is a class one of the class T: of the built-in ones that tell themselves here -/
def subT (t T : String) : Bool := t == T || (t == "bool" && T == "int")
theorem kit_sub {t T : String} (ht : t ∈ ["NoneType", "bool", "int", "str", "tuple", "list", "dict"]) (hT : T ∈ ["bool", "int", "str", "tuple", "list", "dict"]) : kitB t T = some (subT t T) := by
  have h : ∀ t ∈ ["NoneType", "bool", "int", "str", "tuple", "list", "dict"], ∀ T ∈ ["bool", "int", "str", "tuple", "list", "dict"], kitB t T = some (subT t T) := by decide +kernel
  exact h t ht T hT
def isiF (T : String) (ds : List D) (st : Sto) : Res D := match ds with
  | [x, _] => match tyName st x with
    | some t => .ok (.bl (subT t T)) st
    | none => .bad
  | _ => .bad
/-- a name that holds a built-in class, as an argument -/
theorem tyName_rd {μ : List Addr} {H : Hp} {st : Sto} {x : D} {v : V} {t : String} (r : RS Γ μ H st) (h : RD Γ μ H x v) (e : tyName st x = some t) : TyX Γ.K H v (.type t) ∧ t ∈ ["NoneType", "bool", "int", "str", "tuple", "list", "dict"] := by
  cases x with
  | non => cases e; unfold RD at h; subst h; exact ⟨.base .non, by decide⟩
  | bl b => cases e; cases h.ofBl; exact ⟨.base (.bl b), by decide⟩
  | int i => cases e; cases h.ofInt; exact ⟨.base (.int i), by decide⟩
  | str s => cases e; cases h.ofStr.1; exact ⟨.base (.str s), by decide⟩
  | tup l => cases e; obtain ⟨a, vs, rfl, h1, _⟩ := h.ofTup; exact ⟨.base (.tup h1), by decide⟩
  | loc n =>
    obtain ⟨a, h1, rfl⟩ := h.ofLoc
    obtain ⟨o, h2, h3⟩ := r.mu_some h1
    replace e : (match st[n]? with
      | some (.lst _) => some "list"
      | some (.dK _) => some "dict"
      | some (.dT _) => some "dict"
      | _ => none) = some t := e
    rw [h2] at e
    cases o with
    | lst l => cases e; obtain ⟨vs, h4, _⟩ := h3; exact ⟨.base (.lst h4), by decide⟩
    | dK l => cases e; obtain ⟨vs, h4, _⟩ := h3; exact ⟨.base (.dK h4), by decide⟩
    | dT l => cases e; obtain ⟨vs, h4, _⟩ := h3; exact ⟨.base (.dT h4), by decide⟩
    | ins c fs => cases e
  | _ => cases e
theorem m_isi {T : String} {a : Expr} {ma : M} {x : Str} {p p2 pos : Pos} {c : Str} (hT : T ∈ ["bool", "int", "str", "tuple", "list", "dict"]) (hK : X.K = Γ.K) (hg : Gl X "isinstance") (hm : X.mg "isinstance" = none) (hgT : Gl X c) (hmT : X.mg c = none) (hvT : bootBuiltins c = some (.type T))
    (ha : PE X a (dE Γ W ma)) (hnT : c ≠ "__name__" := by decide) (hdT : (c == ("__debug__" : Str)) = false := by decide) (he : starEach [a, .Name c p2] X.env = (false, eval a X.env) :: starEach [.Name c p2] X.env := by rfl) (he2 : starEach [.Name c p2] X.env = (false, eval (.Name c p2) X.env) :: starEach [] X.env := by rfl)
    (hpl : (backTo pos (starEach [.Name c p2] X.env)).any (·.1) = false := by rfl) : PE X (.Call (.Name "isinstance" p) [a, .Name c p2] [] pos) (dE Γ W (mCall (isiF T) (mCons ma (mCons (mLit .non) mNil)))) := by
  have hc : PE X (.Name c p2) (tC (.ty T)) := pe_bltn hgT hmT hvT rfl hnT hdT
  refine pe_imp (pe_callB (x := "isinstance") (id := "isinstance") call_isi hg hm (by decide +kernel) (pa_cons ha (pa_cons hc pa_nil he2) he) (by decide) (by decide) he hpl) ?_
  rintro σ H Q ⟨μ, en, st, rs, re, k⟩
  refine ⟨μ, en, st, rs, re, ?_⟩
  unfold mCall mCons mNil mLit at k
  cases hm : ma en st with
  | ok y s1 =>
    rw [hm] at k
    intro μ' H' v e1 r1 q1
    replace k : KO Γ (RD Γ) μ H (fun c d H' => W c d σ H') (isiF T [y, .non] s1) Q := k
    unfold isiF at k
    dsimp only at k
    split at k
    · rename_i t ht
      obtain ⟨h1, h2⟩ := tyName_rd r1 q1 ht
      rw [hK]
      exact ⟨v, .ty T, _, _, _, rfl, .ty T, h1, kit_ty (kit_sub h2 hT), k μ' H' _ e1 r1 RD.bl⟩
    · exact k.elim
  | exc x s1 => rw [hm] at k; exact k
  | bad => rw [hm] at k; exact k
end
end Mp

set_option Elab.async false
set_option linter.all false
set_option maxRecDepth 100000
set_option maxHeartbeats 2000000
/-! Mp10: repr(a) == repr(b), of the same data. -/
namespace Mp
open PySem PySem.Spec PyProof.Rows L2
mutual
def sameP : PyData → PyData → Bool
  | .none, .none => true
  | .bool a, .bool b => a == b
  | .int a, .int b => a == b
  | .str a, .str b => decide (a = b)
  | .list a, .list b => samePs a b
  | .tuple a, .tuple b => samePs a b
  | _, _ => false
def samePs : List PyData → List PyData → Bool
  | [], [] => true
  | x :: xs, y :: ys => sameP x y && samePs xs ys
  | _, _ => false
end
mutual
theorem sameP_eq : ∀ (a b : PyData), sameP a b = true → a = b
  | .none, b, h => by cases b <;> first | rfl | cases h
  | .bool x, b, h => by
    cases b with
    | bool y => rw [show x = y by simpa [sameP] using h]
    | _ => cases h
  | .int x, b, h => by
    cases b with
    | int y => rw [show x = y by simpa [sameP] using h]
    | _ => cases h
  | .str x, b, h => by
    cases b with
    | str y => rw [show x = y by simpa [sameP] using h]
    | _ => cases h
  | .list x, b, h => by
    cases b with
    | list y => rw [samePs_eq x y (by simpa [sameP] using h)]
    | _ => cases h
  | .tuple x, b, h => by
    cases b with
    | tuple y => rw [samePs_eq x y (by simpa [sameP] using h)]
    | _ => cases h
  | .dict x, b, h => by cases b <;> cases h
theorem samePs_eq : ∀ (a b : List PyData), samePs a b = true → a = b
  | [], [], _ => rfl
  | [], _ :: _, h => by simp [samePs] at h
  | _ :: _, [], h => by simp [samePs] at h
  | x :: xs, y :: ys, h => by
    simp only [samePs, Bool.and_eq_true] at h
    rw [sameP_eq x y h.1, samePs_eq xs ys h.2]
end
/-- its text is known, and fits -/
def okShow (d : PyData) : Bool := d.layable0 && (d.intsShort 13 && (d.showable && !d.hasDict))
def rRepr (K : PySem.W.Frag) : List V → Hp → VK → Prop := fun xs H Q => ∃ x d, xs = [x] ∧ Dp K H x d ∧ okShow d = true ∧ Q (.str d.shown) H
section
variable {X : Cx} {Γ : Cfg} {W : WX}
theorem call_reprA (hg : X.A.guards = some []) (hu : X.A.units + 1100 < cLine) : CallR X (.builtin "repr") (rRepr X.K) := by
  intro pins s σ H xs us Q I r h
  obtain ⟨x, d, rfl, hd, ok, q⟩ := h
  obtain ⟨u, rfl, rx⟩ := vals1 r
  obtain ⟨as, rd⟩ := Dp.reads I d x u hd rx
  unfold okShow at ok
  simp only [Bool.and_eq_true, Bool.not_eq_true'] at ok
  obtain ⟨h1, h2, h3, h4⟩ := ok
  have hz : d.shown.length ≤ sizeLine := by
    have a := shown_le13 h1 h2
    have b := sizeLine_eq
    omega
  have hdep := SeqAt.depth_of_layable h1
  cases rd with
  | none => exact PySem.P.repr_of_none ⟨.str _, H, I.tok _, ⟨_, rfl⟩, q⟩
  | bool b =>
    exact PySem.P.repr_of_bool ⟨.str _, H, I.tok _, ⟨_, rfl⟩, q⟩
  | int i t =>
    refine PySem.P.repr_of_int ?_ ⟨.str _, H, I.tok _, ⟨_, rfl⟩, q⟩
    simpa [PyData.showable] using h3
  | str z t => exact PySem.P.repr_of_str ⟨.str _, H, I.tok _, ⟨_, rfl⟩, q⟩ hz
  | list e1 e2 e3 e4 =>
    refine repr_of_reads' (.list e1 e2 e3 e4) h3 (fun z => by rw [h4] at z; cases z) hg (by omega) (fun _ _ e => e) (fun h' u tk hk => ⟨.str _, H, I.kept (h' := h') (t' := tk) hk, ⟨u, rfl⟩, q⟩) hz
  | tuple e1 e2 e3 e4 =>
    refine repr_of_reads' (.tuple e1 e2 e3 e4) h3 (fun z => by rw [h4] at z; cases z) hg (by omega) (fun _ _ e => e) (fun h' u tk hk => ⟨.str _, H, I.kept (h' := h') (t' := tk) hk, ⟨u, rfl⟩, q⟩) hz
  | dict e1 e2 e3 e4 e5 => simp [PyData.hasDict] at h4
def mReprEq (neg : Bool) (ma mb : M) : M := fun e st => (ma e st).bind fun x s1 => match pyd s1 x with
  | some a => if okShow a then (mb e s1).bind fun y s2 => match pyd s2 y with
      | some b => if okShow b && sameP a b then .ok (.bl (neg ^^ true)) s2 else .bad
      | none => .bad
    else .bad
  | none => .bad
theorem repr2 {neg : Bool} {r : R2} (hr : ∀ (z : Str) (H : Hp) (Q : VK), Q (.bl (neg ^^ true)) H → r (.str z) (.str z) H Q) {ma mb : M} {σ : L2.St} {H : Hp} {Q : VK} (h : dE Γ W (mReprEq neg ma mb) σ H Q) :
    tOp r (tCB (rRepr Γ.K) (tCons (dE Γ W ma) tNil)) (tCB (rRepr Γ.K) (tCons (dE Γ W mb) tNil)) σ H Q := by
  obtain ⟨μ, e, st, rs, re, k⟩ := h
  refine ⟨μ, e, st, rs, re, KO.bind k fun x s1 μ1 H1 v _ e1 r1 q1 k1 => ?_⟩
  split at k1
  · rename_i a ha
    split at k1
    · rename_i oa
      refine ⟨v, a, rfl, (py_dp r1 q1 ha).1, oa, μ1, e, s1, r1, re.mono e1, KO.bind k1 fun y s2 μ2 H2 u _ e2 r2 q2 k2 => ?_⟩
      split at k2
      · rename_i b hb
        split at k2
        · rename_i ob
          rw [Bool.and_eq_true] at ob
          have hab := sameP_eq a b ob.2
          subst hab
          exact ⟨u, a, rfl, (py_dp r2 q2 hb).1, ob.1, hr _ _ _ (k2.ok r2 RD.bl)⟩
        · exact k2.elim
      · exact k2.elim
    · exact k1.elim
  · exact k1.elim
variable {a b : Expr} {ma mb : M} {p1 p2 q1 q2 pos : Pos}
theorem rr_eq (z : Str) (H : Hp) (Q : VK) (q : Q (.bl (false ^^ true)) H) : rEq (.str z) (.str z) H Q := ⟨rfl, by rw [decide_eq_true rfl]; exact q⟩
theorem rr_ne (z : Str) (H : Hp) (Q : VK) (q : Q (.bl (true ^^ true)) H) : rNe (.str z) (.str z) H Q := ⟨rfl, by rw [decide_eq_true rfl]; exact q⟩
theorem call_repr1 (hK : X.K = Γ.K) (hgd : X.A.guards = some []) (hu : X.A.units + 1100 < cLine) (hg : Gl X "repr") (hm : X.mg "repr" = none) (ha : PE X a (dE Γ W ma)) (he : starEach [a] X.env = (false, eval a X.env) :: starEach [] X.env := by rfl) (hpl : (backTo p2 (starEach [] X.env)).any (·.1) = false := by rfl) :
    PE X (.Call (.Name "repr" p1) [a] [] p2) (tCB (rRepr Γ.K) (tCons (dE Γ W ma) tNil)) := by
  rw [← hK]
  exact pe_callB (x := "repr") (id := "repr") (call_reprA hgd hu) hg hm (by decide +kernel) (pa_cons ha pa_nil he) (by decide) (by decide) he hpl
theorem m_reprEq (hK : X.K = Γ.K) (hgd : X.A.guards = some []) (hu : X.A.units + 1100 < cLine) (hg : Gl X "repr") (hm : X.mg "repr" = none) (ha : PE X a (dE Γ W ma)) (hb : PE X b (dE Γ W mb)) (he : starEach [a] X.env = (false, eval a X.env) :: starEach [] X.env := by rfl)
    (he2 : starEach [b] X.env = (false, eval b X.env) :: starEach [] X.env := by rfl) (hpl : (backTo p2 (starEach [] X.env)).any (·.1) = false := by rfl) (hpl2 : (backTo q2 (starEach [] X.env)).any (·.1) = false := by rfl) :
    PE X (.Compare (.Call (.Name "repr" p1) [a] [] p2) [.Eq] [.Call (.Name "repr" q1) [b] [] q2] pos) (dE Γ W (mReprEq false ma mb)) :=
  pe_imp (pe_cmpR op_eq (call_repr1 hK hgd hu hg hm ha he hpl) (call_repr1 hK hgd hu hg hm hb he2 hpl2) (nomark _)) fun _ _ _ h => repr2 rr_eq h
theorem mt_reprEq (hK : X.K = Γ.K) (hgd : X.A.guards = some []) (hu : X.A.units + 1100 < cLine) (hg : Gl X "repr") (hm : X.mg "repr" = none) (ha : PE X a (dE Γ W ma)) (hb : PE X b (dE Γ W mb)) (he : starEach [a] X.env = (false, eval a X.env) :: starEach [] X.env := by rfl)
    (he2 : starEach [b] X.env = (false, eval b X.env) :: starEach [] X.env := by rfl) (hpl : (backTo p2 (starEach [] X.env)).any (·.1) = false := by rfl) (hpl2 : (backTo q2 (starEach [] X.env)).any (·.1) = false := by rfl) :
    PT X (.Compare (.Call (.Name "repr" p1) [a] [] p2) [.Eq] [.Call (.Name "repr" q1) [b] [] q2] pos) (dT Γ W (mB (mReprEq false ma mb))) :=
  pt_imp (pt_cmpR op_eq (call_repr1 hK hgd hu hg hm ha he hpl) (call_repr1 hK hgd hu hg hm hb he2 hpl2) (nomark _)) fun _ _ _ h => repr2 (W := W) rr_eq (test_of h)
theorem m_reprNe (hK : X.K = Γ.K) (hgd : X.A.guards = some []) (hu : X.A.units + 1100 < cLine) (hg : Gl X "repr") (hm : X.mg "repr" = none) (ha : PE X a (dE Γ W ma)) (hb : PE X b (dE Γ W mb)) (he : starEach [a] X.env = (false, eval a X.env) :: starEach [] X.env := by rfl)
    (he2 : starEach [b] X.env = (false, eval b X.env) :: starEach [] X.env := by rfl) (hpl : (backTo p2 (starEach [] X.env)).any (·.1) = false := by rfl) (hpl2 : (backTo q2 (starEach [] X.env)).any (·.1) = false := by rfl) :
    PE X (.Compare (.Call (.Name "repr" p1) [a] [] p2) [.NotEq] [.Call (.Name "repr" q1) [b] [] q2] pos) (dE Γ W (mReprEq true ma mb)) :=
  pe_imp (pe_cmpR op_ne (call_repr1 hK hgd hu hg hm ha he hpl) (call_repr1 hK hgd hu hg hm hb he2 hpl2) (nomark _)) fun _ _ _ h => repr2 rr_ne h
theorem mt_reprNe (hK : X.K = Γ.K) (hgd : X.A.guards = some []) (hu : X.A.units + 1100 < cLine) (hg : Gl X "repr") (hm : X.mg "repr" = none) (ha : PE X a (dE Γ W ma)) (hb : PE X b (dE Γ W mb)) (he : starEach [a] X.env = (false, eval a X.env) :: starEach [] X.env := by rfl)
    (he2 : starEach [b] X.env = (false, eval b X.env) :: starEach [] X.env := by rfl) (hpl : (backTo p2 (starEach [] X.env)).any (·.1) = false := by rfl) (hpl2 : (backTo q2 (starEach [] X.env)).any (·.1) = false := by rfl) :
    PT X (.Compare (.Call (.Name "repr" p1) [a] [] p2) [.NotEq] [.Call (.Name "repr" q1) [b] [] q2] pos) (dT Γ W (mB (mReprEq true ma mb))) :=
  pt_imp (pt_cmpR op_ne (call_repr1 hK hgd hu hg hm ha he hpl) (call_repr1 hK hgd hu hg hm hb he2 hpl2) (nomark _)) fun _ _ _ h => repr2 (W := W) rr_ne (test_of h)
end
end Mp

set_option Elab.async false
set_option linter.all false
set_option maxRecDepth 100000
set_option maxHeartbeats 2000000
/-! Mp11: statements. -/
namespace Mp
open PySem PySem.Spec PyProof.Rows L2

def Res.sr {α : Type} (r : Res α) (e : Slots) (f : α → Sto → SR) : SR := match r with
  | .ok a s => f a s
  | .exc x s => .exc x e s
  | .bad => .bad
section
variable {X : Cx} {Γ : Cfg} {W : WX} {st : Stmt} {rest : List Stmt} {m1 m2 : MS} {pos : Pos}
theorem ps_imp {t t' : TS} (h : PS X st t) (i : ∀ D σ H, t' D σ H → t D σ H) : PS X st t' := ⟨fun pins s σ H D I q => h.run pins s σ H D I (i D σ H q)⟩
theorem pss_imp {t t' : TS} (h : PSs X rest t) (i : ∀ D σ H, t' D σ H → t D σ H) : PSs X rest t' := ⟨fun pins s σ H D I q => h.run pins s σ H D I (i D σ H q)⟩
theorem KS.bindR {α β : Type} {rel : List Addr → Hp → α → β → Prop} {μ : List Addr} {H : Hp} {r : Res α} {f : α → Sto → SR} {e : Slots} {σ : L2.St} {D : Ends} {Q1 : β → Hp → Prop} (re : RE Γ μ H e σ) (h : KS Γ μ H W (r.sr e f) D)
    (k : ∀ d st μ1 H1 v, r = .ok d st → Ext μ H μ1 H1 → RS Γ μ1 H1 st → rel μ1 H1 d v → KS Γ μ1 H1 W (f d st) D → Q1 v H1) : KO Γ rel μ H (fun c d H' => W c d σ H') r Q1 := KS.bind re h k

def sSkip : MS := fun e st => .nx e st
def sSeq (m1 m2 : MS) : MS := fun e st => match m1 e st with
  | .nx e' st' => m2 e' st'
  | r => r
theorem KS.nx {μ : List Addr} {H : Hp} {e : Slots} {sto : Sto} {D : Ends} {σ : L2.St} (h : KS Γ μ H W (.nx e sto) D) (r : RS Γ μ H sto) (re : RE Γ μ H e σ) : D.nx σ H := h μ H σ (Ext.refl _ _) r re
theorem ss_nil : PSs X [] (dS Γ W sSkip) := pss_imp pss_nil fun D σ H ⟨μ, e, sto, r, re, k⟩ => k.nx r re
theorem ss_cons (h1 : PS X st (dS Γ W m1)) (h2 : PSs X rest (dS Γ W m2)) : PSs X (st :: rest) (dS Γ W (sSeq m1 m2)) := by
  refine pss_imp (pss_cons h1 h2) ?_
  rintro D σ H ⟨μ, e, sto, r, re, k⟩
  refine ⟨μ, e, sto, r, re, ?_⟩
  unfold sSeq at k
  cases h : m1 e sto with
  | nx e' st' => rw [h] at k; exact fun μ' H' σ' e1 r1 re1 => ⟨μ', e', st', r1, re1, KS.mono e1 k⟩
  | rt d st' => rw [h] at k; exact k
  | bk e' st' => rw [h] at k; exact k
  | ct e' st' => rw [h] at k; exact k
  | exc x e' st' => rw [h] at k; exact k
  | bad => rw [h] at k; exact k
theorem ss_one (h1 : PS X st (dS Γ W m1)) : PSs X [st] (dS Γ W m1) := pss_one h1
theorem s_pass : PS X (.Pass pos) (dS Γ W sSkip) := ps_imp ps_pass fun D σ H ⟨μ, e, sto, r, re, k⟩ => k.nx r re
theorem s_doc {x j pos'} : PS X (.Expr (.Constant (.str x) j pos) pos') (dS Γ W sSkip) := ps_imp ps_doc fun D σ H ⟨μ, e, sto, r, re, k⟩ => k.nx r re
def sBreak : MS := fun e st => .bk e st
def sCont : MS := fun e st => .ct e st
theorem s_break : PS X (.Break pos) (dS Γ W sBreak) := ps_imp ps_break fun D σ H ⟨μ, e, sto, r, re, k⟩ => k μ H σ (Ext.refl _ _) r re
theorem s_cont : PS X (.Continue pos) (dS Γ W sCont) := ps_imp ps_continue fun D σ H ⟨μ, e, sto, r, re, k⟩ => k μ H σ (Ext.refl _ _) r re
def sExpr (m : M) : MS := fun e st => (m e st).sr e fun _ s1 => .nx e s1
theorem s_expr {ex : Expr} {m : M} (he : PE X ex (dE Γ W m)) (hs : swapsWith ex none pos.line X.env = pure false := by rfl) : PS X (.Expr ex pos) (dS Γ W (sExpr m)) := by
  refine ps_imp (ps_expr he hs) ?_
  rintro D σ H ⟨μ, e, sto, r, re, k⟩
  exact ⟨μ, e, sto, r, re, KS.bindR re k fun d s1 μ1 H1 v _ e1 r1 _ k1 => k1.nx r1 (re.mono e1)⟩
def sRet (m : M) : MS := fun e st => (m e st).sr e fun d s1 => .rt d s1
theorem s_ret {ex : Expr} {m : M} (he : PE X ex (dE Γ W m)) : PS X (.Return (some ex) pos) (dS Γ W (sRet m)) := by
  refine ps_imp (ps_ret he) ?_
  rintro D σ H ⟨μ, e, sto, r, re, k⟩
  exact ⟨μ, e, sto, r, re, KS.bindR re k fun d s1 μ1 H1 v _ e1 r1 q1 k1 => k1 μ1 H1 v (Ext.refl _ _) r1 q1⟩
def sRetN : MS := fun _ st => .rt .non st
theorem s_retN : PS X (.Return none pos) (dS Γ W sRetN) := ps_imp ps_retN fun D σ H ⟨μ, e, sto, r, re, k⟩ => k μ H .non (Ext.refl _ _) r RD.non
def sIf (t : MT) (a b : MS) : MS := fun e st => (t e st).sr e fun c s1 => if c then a e s1 else b e s1
theorem s_if {c : Expr} {a b : List Stmt} {t : MT} (hc : PT X c (dT Γ W t)) (ha : PSs X a (dS Γ W m1)) (hb : PSs X b (dS Γ W m2)) : PS X (.If c a b pos) (dS Γ W (sIf t m1 m2)) := by
  refine ps_imp (ps_if hc ha hb) ?_
  rintro D σ H ⟨μ, e, sto, r, re, k⟩
  refine ⟨μ, e, sto, r, re, KS.bindR re k fun d s1 μ1 H1 v _ e1 r1 q1 k1 => ?_⟩
  cases q1
  cases d with
  | true => exact ⟨μ1, e, s1, r1, re.mono e1, k1⟩
  | false => exact ⟨μ1, e, s1, r1, re.mono e1, k1⟩

/-! ### targets -/
abbrev MG := D → Slots → Option Slots
def dG (Γ : Cfg) (g : MG) : TG := fun v σ H Q => ∃ μ e d e', RE Γ μ H e σ ∧ RD Γ μ H d v ∧ g d e = some e' ∧ ∀ σ', RE Γ μ H e' σ' → Q σ' H
abbrev MGs := List D → Slots → Option Slots
def dGs (Γ : Cfg) (g : MGs) : TGs := fun vs σ H Q => ∃ μ e l e', RE Γ μ H e σ ∧ RDs Γ μ H l vs ∧ g l e = some e' ∧ ∀ σ', RE Γ μ H e' σ' → Q σ' H
theorem pg_imp {tg : Expr} {t t' : TG} (h : PG X tg t) (i : ∀ v σ H Q, t' v σ H Q → t v σ H Q) : PG X tg t' := ⟨fun pins s σ H v u Q I r q => h.run pins s σ H v u Q I r (i v σ H Q q)⟩
theorem pgs_imp {tg : List Expr} {t t' : TGs} (h : PGs X tg t) (i : ∀ v σ H Q, t' v σ H Q → t v σ H Q) : PGs X tg t' := ⟨fun pins s σ H v u Q I r q => h.run pins s σ H v u Q I r (i v σ H Q q)⟩
/-- slot i is not the name of the exception at hand -/
def Off (Γ : Cfg) (i : Nat) : Prop := ∀ q, Γ.cur = some q → q.i ≠ i
theorem off_of {i : Nat} (h : Γ.cur = none) : Off Γ i := fun q hq => by rw [h] at hq; cases hq
theorem RE.set {μ : List Addr} {H : Hp} {e : Slots} {σ : L2.St} {d : D} {v : V} {i : Nat} (re : RE Γ μ H e σ) (h : RD Γ μ H d v) (ho : Off Γ i) : RE Γ μ H (e.set i (some d)) (σ.set i (some v)) :=
  ⟨re.l.set i h, fun q hq => by rw [List.getElem?_set_ne (Ne.symm (ho q hq))]; exact re.cur q hq⟩
def gN (i : Nat) : MG := fun d e => some (e.set i (some d))
theorem g_name {i : Nat} {x : Str} (ho : Off Γ i) (hN : X.N.Nodup) (hi : X.N[i]? = some x) (hx : Loc X.env.scope x) (hf : X.fn x = true ∨ X.env.scope.names.lookup x = some .local) : PG X (.Name x pos) (dG Γ (gN i)) := by
  refine pg_imp (pg_name hN hi hx hf) ?_
  rintro v σ H Q ⟨μ, e, d, e', re, rd, hg, k⟩
  cases hg
  exact k _ (re.set rd ho)
def gNil' : MGs := fun l e => match l with
  | [] => some e
  | _ => none
def gCons' (g : MG) (r : MGs) : MGs := fun l e => match l with
  | d :: l => (g d e).bind fun e1 => r l e1
  | _ => none
theorem gs_nil : PGs X [] (dGs Γ gNil') := by
  refine pgs_imp pgs_nil ?_
  rintro v σ H Q ⟨μ, e, l, e', re, rd, hg, k⟩
  unfold gNil' at hg
  split at hg
  · cases hg; cases rd.unnil; exact ⟨rfl, k _ re⟩
  · cases hg
theorem gs_cons {t : Expr} {ts : List Expr} {g : MG} {r : MGs} (h1 : PG X t (dG Γ g)) (h2 : PGs X ts (dGs Γ r)) (hs : (assignEach (t :: ts) X.env).map (·.2) = assign t X.env :: (assignEach ts X.env).map (·.2) := by rfl) : PGs X (t :: ts) (dGs Γ (gCons' g r)) := by
  refine pgs_imp (pgs_cons h1 h2 hs) ?_
  rintro v σ H Q ⟨μ, e, l, e', re, rd, hg, k⟩
  unfold gCons' at hg
  split at hg
  · rename_i d l
    obtain ⟨u, w, rfl, h3, h4⟩ := rd.uncons
    obtain ⟨e1, h5, h6⟩ := Option.bind_eq_some_iff.mp hg
    exact ⟨u, w, rfl, μ, e, d, e1, re, h3, h5, fun σ1 re1 => ⟨μ, e1, l, e', re1, h4, h6, k⟩⟩
  · cases hg
def gT (g : MGs) (n : Nat) : MG := fun d e => match tupOf d with
  | some l => if l.length = n then g l e else none
  | none => none
theorem g_tup {es : List Expr} {j : Nat} {g : MGs} {n : Nat} (hK : X.K = Γ.K) (hc : X.calm = true) (h : PGs X es (dGs Γ g)) (hn : (assignEach es X.env).length = n := by rfl) (hst : (assignEach es X.env).findIdx? (·.1) = none := by rfl) : PG X (.Tuple es j pos) (dG Γ (gT g n)) := by
  refine pg_imp (pg_tup hc h hn hst) ?_
  rintro v σ H Q ⟨μ, e, d, e', re, rd, hg, k⟩
  unfold gT at hg
  cases ht : tupOf d with
  | none => rw [ht] at hg; cases hg
  | some l =>
    rw [ht] at hg
    dsimp only at hg
    split at hg
    · rename_i hl
      obtain ⟨a, vs, rfl, h1, h2⟩ := tupOf_rd rd ht
      rw [hK]
      exact ⟨a, vs, rfl, h1, by rw [h2.length]; exact hl, μ, e, l, e', re, h2, hg, k⟩
    · cases hg
/-- target = value -/
def sAsg (m : M) (g : MG) : MS := fun e st => (m e st).sr e fun d s1 => match g d e with
  | some e' => .nx e' s1
  | none => .bad
theorem asg_of {m : M} {g : MG} {D : Ends} {σ : L2.St} {H : Hp} (h : dS Γ W (sAsg m g) D σ H) : tAsg (dE Γ W m) (dG Γ g) D σ H := by
  obtain ⟨μ, e, sto, r, re, k⟩ := h
  refine ⟨μ, e, sto, r, re, KS.bindR re k fun d s1 μ1 H1 v _ e1 r1 q1 k1 => ?_⟩
  cases hg : g d e with
  | none => rw [hg] at k1; exact k1.elim
  | some e' => rw [hg] at k1; exact ⟨μ1, e, d, e', re.mono e1, q1, hg, fun σ' re' => k1.nx r1 re'⟩
theorem s_asg {tg ex : Expr} {m : M} {g : MG} (he : PE X ex (dE Γ W m)) (hg : PG X tg (dG Γ g)) (hs : swapsWithSole [tg] ex pos.line X.env = pure false := by rfl) (hw : swappedStores [tg] ex X.env = pure none := by rfl)
    (h1 : (assignEach [tg] X.env).map (·.2) = [assign tg X.env] := by rfl) : PS X (.Assign [tg] ex pos) (dS Γ W (sAsg m g)) := ps_imp (ps_asg he hg hs hw h1) fun D σ H h => asg_of h
/-- a, b = x, y -/
def sPar2 (i j : Nat) (ma : MA) : MS := fun e st => (ma e st).sr e fun l s1 => match l with
  | [a, b] => .nx ((e.set i (some a)).set j (some b)) s1
  | _ => .bad
theorem s_par2 {i j : Nat} {x y : Str} {a b : Expr} {ma : MA} {px py pt : Pos} {kt k2 pt2} (ho : Off Γ i) (ho2 : Off Γ j) (hc : X.calm = true) (hN : X.N.Nodup) (hi : X.N[i]? = some x) (hj : X.N[j]? = some y) (hij : i ≠ j)
    (hx : X.env.scope.names.lookup x = some .local) (hy : X.env.scope.names.lookup y = some .local) (ha : PA X [a, b] (dA Γ W ma)) (hw : swappedStores [.Tuple [.Name x px, .Name y py] kt pt] (.Tuple [a, b] k2 pt2) X.env = pure (some [x, y]) := by rfl)
    (hs : swapsWithSole [.Tuple [.Name x px, .Name y py] kt pt] (.Tuple [a, b] k2 pt2) pos.line X.env = pure false := by rfl) : PS X (.Assign [.Tuple [.Name x px, .Name y py] kt pt] (.Tuple [a, b] k2 pt2) pos) (dS Γ W (sPar2 i j ma)) := by
  refine ps_imp (ps_par hc hN hi hj hij hx hy ha hw hs) ?_
  rintro D σ H ⟨μ, e, sto, r, re, k⟩
  refine ⟨μ, e, sto, r, re, KS.bindR re k fun l s1 μ1 H1 vs _ e1 r1 q1 k1 => ?_⟩
  split at k1
  · obtain ⟨v, w, rfl, h2, h3⟩ := q1.uncons
    obtain ⟨u, w, rfl, h4, h5⟩ := h3.uncons
    cases h5.unnil
    exact ⟨v, u, rfl, k1.nx r1 (((re.mono e1).set h2 ho).set h4 ho2)⟩
  · exact k1.elim
/-- name op= e -/
def sAug (i : Nat) (f : D → D → Sto → Res D) (m : M) : MS := fun e st => match e[i]? with
  | some (some x) => (m e st).sr e fun y s1 => (f x y s1).sr e fun z s2 => .nx (e.set i (some z)) s2
  | _ => .bad
theorem s_aug {i : Nat} {x : Str} {ex : Expr} {m : M} {op : Operator} {r : R2} {f : D → D → Sto → Res D} {pos' : Pos} (ho : Off Γ i) (hN : X.N.Nodup) (hi : X.N[i]? = some x) (hx : Loc X.env.scope x) (hf : X.fn x = true ∨ X.env.scope.names.lookup x = some .local) (hop : OpR X (inplaceOp op) r) (hd : OpD Γ r f) (he : PE X ex (dE Γ W m)) :
    PS X (.AugAssign (.Name x pos') op ex pos) (dS Γ W (sAug i f m)) := by
  refine ps_imp (ps_aug (ti := r) hN hi hx he (fun pins s σ H x y v u Q I rx ry q => hop pins s σ H x y v u Q I rx ry q) hf) ?_
  rintro D σ H ⟨μ, e, sto, rs, re, k⟩
  unfold sAug at k
  split at k
  · rename_i d hd'
    obtain ⟨v, h1, h2⟩ := re.l.get hd'
    refine ⟨v, h1, μ, e, sto, rs, re, KS.bindR re k fun y s1 μ1 H1 u _ e1 r1 q1 k1 => ?_⟩
    exact hd μ1 H1 s1 d y v u _ (fun c d H' => W c d σ H') r1 (h2.mono e1) q1 (KS.bindR (re.mono e1) k1 fun z s2 μ2 H2 w _ e2 r2 q2 k2 => k2.nx r2 ((re.mono (e1.trans e2)).set q2 ho))
  · exact k.elim

/-! ### while -/
def whileL (t : MT) (b : MS) : Nat → MS
  | 0 => fun _ _ => .bad
  | f + 1 => fun e st => (t e st).sr e fun c s1 => if c then match b e s1 with
      | .nx e2 s2 => whileL t b f e2 s2
      | .ct e2 s2 => whileL t b f e2 s2
      | .bk e2 s2 => .nx e2 s2
      | r => r
    else .nx e s1
theorem s_while (F : Nat) {c : Expr} {body : List Stmt} {t : MT} {b : MS} (hp : PassesOwn (model X.prog X.w) X.A X.env X.xe) (hc : PT X c (dT Γ W t)) (hb : PSs X body (dS Γ W b)) : PS X (.While c body [] pos) (dS Γ W (whileL t b F)) := by
  refine ps_imp (ps_while hp hc hb) ?_
  rintro D σ H ⟨μ, e, sto, r, re, k⟩
  refine ⟨fun m σ' H' => ∃ μ' e' st', RS Γ μ' H' st' ∧ RE Γ μ' H' e' σ' ∧ KS Γ μ' H' W (whileL t b m e' st') D, ⟨F, μ, e, sto, r, re, k⟩, ?_⟩
  rintro m σ1 H1 ⟨μ1, e1, st1, r1, re1, k1⟩
  cases m with
  | zero => exact k1.elim
  | succ m =>
    refine ⟨μ1, e1, st1, r1, re1, KS.bindR re1 k1 fun c s2 μ2 H2 v _ x2 r2 q2 k2 => ?_⟩
    cases q2
    cases c with
    | false => exact k2.nx r2 (re1.mono x2)
    | true =>
      refine iteT ⟨fun σ' H' => ∃ μ' e' st', RS Γ μ' H' st' ∧ RE Γ μ' H' e' σ' ∧ KS Γ μ' H' W (whileL t b m e' st') D, fun σ' H' h => ⟨m, Nat.lt_succ_self m, h⟩, μ2, e1, s2, r2, re1.mono x2, ?_⟩
      replace k2 : KS Γ μ2 H2 W (match b e1 s2 with
        | .nx e2 s2 => whileL t b m e2 s2
        | .ct e2 s2 => whileL t b m e2 s2
        | .bk e2 s2 => .nx e2 s2
        | r => r) D := k2
      cases hb : b e1 s2 with
      | nx e3 s3 => rw [hb] at k2; exact fun μ3 H3 σ3 x3 r3 re3 => ⟨μ3, e3, s3, r3, re3, KS.mono x3 k2⟩
      | ct e3 s3 => rw [hb] at k2; exact fun μ3 H3 σ3 x3 r3 re3 => ⟨μ3, e3, s3, r3, re3, KS.mono x3 k2⟩
      | bk e3 s3 => rw [hb] at k2; exact k2
      | rt d s3 => rw [hb] at k2; exact k2
      | exc x e3 s3 => rw [hb] at k2; exact k2
      | bad => rw [hb] at k2; exact k2

/-! ### for -/
abbrev Nxt := Nat → Sto → Option (Option D)
abbrev MI := Slots → Sto → Res (Nat × Nxt)
/-- an iterator of the layer that gives what nxt gives -/
def RJ (Γ : Cfg) (μ : List Addr) (H : Hp) (nx : Nxt) (J : It) : Prop := ∀ (i : Nat) (μ1 : List Addr) (H1 : Hp) (st1 : Sto), Ext μ H μ1 H1 → RS Γ μ1 H1 st1 →
  (nx i st1 = some none → J.stop i H1) ∧ ∀ d, nx i st1 = some (some d) → J.go i H1 ∧ ∀ x H2, J.yld i H1 x H2 → Ext μ1 H1 μ1 H2 ∧ RS Γ μ1 H2 st1 ∧ RD Γ μ1 H2 d x
def dI (Γ : Cfg) (W : WX) (m : MI) : TI := fun σ H R => ∃ μ e st, RS Γ μ H st ∧ RE Γ μ H e σ ∧ KO Γ (fun μ' H' p J => RJ Γ μ' H' p.2 J) μ H (fun c d H' => W c d σ H') (m e st) (fun J H' => R J H')
theorem pi_imp {tg it : Expr} {t t' : TI} (h : PI X tg it t) (i : ∀ σ H R, t' σ H R → t σ H R) : PI X tg it t' := ⟨fun pins s σ H R I q => h.run pins s σ H R I (i σ H R q)⟩
def forL (nx : Nxt) (g : MG) (b : MS) : Nat → Nat → MS
  | 0, i => fun e st => match nx i st with
    | some none => .nx e st
    | _ => .bad
  | f + 1, i => fun e st => match nx i st with
    | none => .bad
    | some none => .nx e st
    | some (some d) => match g d e with
      | none => .bad
      | some e1 => match b e1 st with
        | .nx e2 s2 => forL nx g b f (i + 1) e2 s2
        | .ct e2 s2 => forL nx g b f (i + 1) e2 s2
        | .bk e2 s2 => .nx e2 s2
        | r => r
def sFor (m : MI) (g : MG) (b : MS) : MS := fun e st => (m e st).sr e fun p s1 => forL p.2 g b p.1 0 e s1
theorem s_for {tg iter : Expr} {body : List Stmt} {m : MI} {g : MG} {b : MS} (hp : PassesOwn (model X.prog X.w) X.A X.env X.xe) (hc : X.calm = true) (hi : PI X tg iter (dI Γ W m)) (hg : PG X tg (dG Γ g)) (hb : PSs X body (dS Γ W b))
    (hs : ∀ x, foldedSetIterable iter X.env x = pure x := by intro _; rfl) : PS X (.For tg iter body [] pos) (dS Γ W (sFor m g b)) := by
  refine ps_imp (ps_for hp hc hi hg hb hs) ?_
  rintro D σ H ⟨μ, e, sto, r, re, k⟩
  refine ⟨μ, e, sto, r, re, KS.bindR re k fun p s0 μ0 H0 J _ e0 r0 j0 k0 => ?_⟩
  obtain ⟨fu, nx⟩ := p
  refine ⟨fun i n σ' H' => ∃ μ' e' st', Ext μ0 H0 μ' H' ∧ RS Γ μ' H' st' ∧ RE Γ μ' H' e' σ' ∧ KS Γ μ' H' W (forL nx g b n i e' st') D, ⟨fu, μ0, e, s0, Ext.refl _ _, r0, re.mono e0, k0⟩, ?_⟩
  rintro i n σ1 H1 ⟨μ1, e1, st1, x1, r1, re1, k1⟩
  have j1 := j0 i μ1 H1 st1 x1 r1
  cases n with
  | zero =>
    unfold forL at k1
    split at k1
    · rename_i hn
      exact .inl ⟨j1.1 hn, k1.nx r1 re1⟩
    · exact k1.elim
  | succ n =>
    unfold forL at k1
    split at k1
    · exact k1.elim
    · rename_i hn
      exact .inl ⟨j1.1 hn, k1.nx r1 re1⟩
    · rename_i d hn
      obtain ⟨go, y⟩ := j1.2 d hn
      refine .inr ⟨go, fun σ' H' => ∃ μ' e' st', Ext μ0 H0 μ' H' ∧ RS Γ μ' H' st' ∧ RE Γ μ' H' e' σ' ∧ KS Γ μ' H' W (forL nx g b n (i + 1) e' st') D, fun σ' H' h => ⟨n, Nat.lt_succ_self n, h⟩, fun x H2 hy => ?_⟩
      obtain ⟨x2, r2, q2⟩ := y x H2 hy
      split at k1
      · exact k1.elim
      · rename_i e2 hg2
        refine ⟨μ1, e1, d, e2, re1.mono x2, q2, hg2, fun σ2 re2 => ⟨μ1, e2, st1, r2, re2, ?_⟩⟩
        have k2 := KS.mono x2 k1
        cases hb : b e2 st1 with
        | nx e3 s3 => rw [hb] at k2; exact fun μ3 H3 σ3 x3 r3 re3 => ⟨μ3, e3, s3, (x1.trans x2).trans x3, r3, re3, KS.mono x3 k2⟩
        | ct e3 s3 => rw [hb] at k2; exact fun μ3 H3 σ3 x3 r3 re3 => ⟨μ3, e3, s3, (x1.trans x2).trans x3, r3, re3, KS.mono x3 k2⟩
        | bk e3 s3 => rw [hb] at k2; exact k2
        | rt d s3 => rw [hb] at k2; exact k2
        | exc x e3 s3 => rw [hb] at k2; exact k2
        | bad => rw [hb] at k2; exact k2
end
end Mp

set_option Elab.async false
set_option linter.all false
set_option maxRecDepth 100000
set_option maxHeartbeats 2000000
/-! Mp12: what loops walk; list comprehensions. -/
namespace Mp
open PySem PySem.Spec PyProof.Rows L2
section
variable {X : Cx} {Γ : Cfg} {W : WX} {tg : Expr}
def nxFix (l : List D) : Nxt := fun i _ => some l[i]?
def nxLoc (n : Nat) : Nxt := fun i st => match st[n]? with
  | some (.lst l) => some l[i]?
  | _ => none
theorem rj_tup {μ : List Addr} {H : Hp} {a : Addr} {l : List D} {vs : List V} (h1 : SqT Γ.K H a vs) (h2 : RDs Γ μ H l vs) : RJ Γ μ H (nxFix l) (Itt Γ.K a) := by
  intro i μ1 H1 st1 e r
  have q := e.wk.sqT h1
  refine ⟨fun hn => ⟨vs, q, ?_⟩, fun d hd => ?_⟩
  · have : l[i]? = none := Option.some.inj hn
    rw [h2.length]
    exact List.getElem?_eq_none_iff.mp this
  · have : l[i]? = some d := Option.some.inj hd
    obtain ⟨v, h3, h4⟩ := h2.get this
    refine ⟨⟨vs, v, q, h3⟩, fun x H2 ⟨e2, hx⟩ => ?_⟩
    subst e2
    have := hx vs q
    rw [h3] at this
    cases this
    exact ⟨Ext.refl _ _, r, h4.mono e⟩
theorem rj_fz {μ : List Addr} {H : Hp} {a : Addr} {l : List D} {vs : List V} (h1 : SqF Γ.K H a vs) (h2 : RDs Γ μ H l vs) : RJ Γ μ H (nxFix l) (Itl Γ.K a) := by
  intro i μ1 H1 st1 e r
  have q := (e.wk.sqF h1).sq
  refine ⟨fun hn => ⟨vs, q, ?_⟩, fun d hd => ?_⟩
  · have : l[i]? = none := Option.some.inj hn
    rw [h2.length]
    exact List.getElem?_eq_none_iff.mp this
  · have : l[i]? = some d := Option.some.inj hd
    obtain ⟨v, h3, h4⟩ := h2.get this
    refine ⟨⟨vs, v, q, h3⟩, fun x H2 ⟨e2, hx⟩ => ?_⟩
    subst e2
    have := hx vs q
    rw [h3] at this
    cases this
    exact ⟨Ext.refl _ _, r, h4.mono e⟩
theorem rj_loc {μ : List Addr} {H : Hp} {a : Addr} {n : Nat} (h : μ[n]? = some a) : RJ Γ μ H (nxLoc n) (Itl Γ.K a) := by
  intro i μ1 H1 st1 e r
  have hm := e.pre n a h
  refine ⟨fun hn => ?_, fun d hd => ?_⟩
  · unfold nxLoc at hn
    split at hn
    · rename_i l hl
      obtain ⟨b, hb, vs, h1, h2⟩ := r.ob n _ hl
      rw [hm] at hb
      cases hb
      have : l[i]? = none := Option.some.inj hn
      exact ⟨vs, .of h1, by rw [h2.length]; exact List.getElem?_eq_none_iff.mp this⟩
    · cases hn
  · unfold nxLoc at hd
    split at hd
    · rename_i l hl
      obtain ⟨b, hb, vs, h1, h2⟩ := r.ob n _ hl
      rw [hm] at hb
      cases hb
      have : l[i]? = some d := Option.some.inj hd
      obtain ⟨v, h3, h4⟩ := h2.get this
      refine ⟨⟨vs, v, .of h1, h3⟩, fun x H2 ⟨e2, hx⟩ => ?_⟩
      subst e2
      have := hx vs (.of h1)
      rw [h3] at this
      cases this
      exact ⟨Ext.refl _ _, r, h4⟩
    · cases hd
def sgs (z : Str) : List D := z.cps.toList.map fun c => .str ⟨#[c]⟩
theorem rj_str {μ : List Addr} {H : Hp} {z : Str} (ok : strOk z = true) : RJ Γ μ H (nxFix (sgs z)) (Its z) := by
  intro i μ1 H1 st1 e r
  refine ⟨fun hn => ?_, fun d hd => ?_⟩
  · have : (sgs z)[i]? = none := Option.some.inj hn
    have h := List.getElem?_eq_none_iff.mp this
    unfold sgs at h
    have h2 : z.cps.size ≤ i := by simpa using h
    exact h2
  · have : (sgs z)[i]? = some d := Option.some.inj hd
    unfold sgs at this
    rw [List.getElem?_map] at this
    obtain ⟨c, hc, rfl⟩ := Option.map_eq_some_iff.mp this
    have hi : i < z.cps.size := by
      have := (List.getElem?_eq_some_iff.mp hc).1
      simpa using this
    refine ⟨hi, fun x H2 ⟨e2, c', hc', hx⟩ => ?_⟩
    subst e2
    subst hx
    have : z.cps.toList[i]? = some c' := by simpa using hc'
    rw [hc] at this
    cases this
    exact ⟨Ext.refl _ _, r, RD.str (strOk_sign ok (List.mem_of_getElem? hc))⟩
/-- a list, a tuple, a text -/
def miSeq (m : M) : MI := fun e st => (m e st).bind fun d s1 => match d with
  | .tup l => .ok (l.length, nxFix l) s1
  | .wt l => .ok (l.length, nxFix l) s1
  | .fz l => .ok (l.length, nxFix l) s1
  | .str z => .ok (z.length, nxFix (sgs z)) s1
  | .loc n => match s1[n]? with
    | some (.lst l) => .ok (l.length, nxLoc n) s1
    | _ => .bad
  | _ => .bad
def iSeq (K : PySem.W.Frag) (tl : TE) : TI := fun σ H R => tl σ H fun x H1 => (∃ a xs, x = .ref a ∧ SqL K H1 a xs ∧ R (Itl K a) H1) ∨ (∃ a xs, x = .ref a ∧ SqT K H1 a xs ∧ R (Itt K a) H1) ∨ ∃ z, x = .str z ∧ R (Its z) H1
theorem pi_seq {l : Expr} {tl : TE} (hl : PE X l tl) : PI X tg l (iSeq X.K tl) := by
  refine ⟨fun pins s σ H R I h => ?_⟩
  refine thn (hl.run pins s σ H _ I h) fun v s1 ⟨x, H1, I1, r1, q1⟩ => ?_
  rcases q1 with ⟨a, xs, ex, hq, q⟩ | ⟨a, xs, ex, hq, q⟩ | ⟨z, ex, q⟩
  · subst ex
    cases r1
    obtain ⟨its, rv, p, _⟩ := I1.list hq
    exact wpAny_pyIter_list p.isList (pi_one (tk := s1.toks) I1 _ (turn_list a _) ⟨_, Heap.get?_push_size _ rfl, rfl, rfl⟩ q)
  · subst ex
    cases r1
    obtain ⟨its, rv, p, _⟩ := I1.tuple hq
    exact wpAny_pyIter_tuple (show s1.heap.IsTuple a its.toArray from p) (pi_one (tk := s1.toks) I1 _ (turn_tuple a _) ⟨_, Heap.get?_push_size _ rfl, rfl, rfl⟩ q)
  · subst ex
    obtain ⟨t, rfl⟩ := r1
    cases ha : z.cps.all (· < 128) with
    | false => exact wpAny_pyIter_wide ha (pi_one (tk := s1.toks) I1 _ (turn_str _ z t "str_iterator" (.inr rfl)) ⟨_, Heap.get?_push_size _ rfl, rfl, rfl⟩ q)
    | true => exact wpAny_pyIter_ascii ha (pi_one (tk := s1.toks) I1 _ (turn_str _ z t "str_ascii_iterator" (.inl rfl)) ⟨_, Heap.get?_push_size _ rfl, rfl, rfl⟩ q)
theorem i_seq {l : Expr} {m : M} (hK : X.K = Γ.K) (hl : PE X l (dE Γ W m)) : PI X tg l (dI Γ W (miSeq m)) := by
  refine pi_imp (pi_seq hl) ?_
  rintro σ H R ⟨μ, e, st, r, re, k⟩
  refine ⟨μ, e, st, r, re, KO.bind k fun d s1 μ1 H1 v _ e1 r1 q1 k1 => ?_⟩
  rw [hK]
  have go : ∀ {p : Nat × Nxt} {J : It}, KO Γ (fun μ' H' p J => RJ Γ μ' H' p.2 J) μ1 H1 (fun c d H' => W c d σ H') (.ok p s1) (fun J H' => R J H') → RJ Γ μ1 H1 p.2 J → R J H1 := fun k j => k μ1 H1 _ (Ext.refl _ _) r1 j
  split at k1
  · obtain ⟨a, vs, rfl, h1, h2⟩ := q1.ofTup
    exact .inr (.inl ⟨a, vs, rfl, .of h1, go k1 (rj_tup (.of h1) h2)⟩)
  · obtain ⟨a, vs, rfl, h1, h2⟩ := q1.ofWt
    exact .inr (.inl ⟨a, vs, rfl, h1, go k1 (rj_tup h1 h2)⟩)
  · obtain ⟨a, vs, rfl, h1, h2⟩ := q1.ofFz
    exact .inl ⟨a, vs, rfl, h1.sq, go k1 (rj_fz h1 h2)⟩
  · obtain ⟨rfl, ok⟩ := q1.ofStr
    exact .inr (.inr ⟨_, rfl, go k1 (rj_str ok)⟩)
  · split at k1
    · rename_i n _ l hl
      obtain ⟨_, a, vs, hnn, hm, rfl, h1, h2⟩ := lstOf_rd r1 q1 (lstOf_loc hl)
      cases hnn
      exact .inl ⟨a, vs, rfl, .of h1, go k1 (rj_loc hm)⟩
    · exact k1.elim
  · exact k1.elim
/-! ### ranges -/
def rgs (lo : Int) (n : Nat) : Nxt := fun i _ => some (if i < n then some (.int (lo + i)) else none)
theorem rj_rng {μ : List Addr} {H : Hp} {lo : Int} {n : Nat} : RJ Γ μ H (rgs lo n) (Itr lo n) := by
  intro i μ1 H1 st1 e r
  refine ⟨fun hn => ?_, fun d hd => ?_⟩
  · unfold rgs at hn
    split at hn
    · cases hn
    · exact Nat.le_of_not_lt (by assumption)
  · unfold rgs at hd
    split at hd
    · cases hd
      refine ⟨by assumption, fun x H2 ⟨e2, hx⟩ => ?_⟩
      subst e2
      subst hx
      exact ⟨Ext.refl _ _, r, RD.int⟩
    · cases hd
def miR1 (m : M) : MI := fun e st => (m e st).bind fun d s1 => match d with
  | .int j => if decide (-(2 ^ 62) ≤ j ∧ j < 2 ^ 62) then .ok (j.toNat, rgs 0 j.toNat) s1 else .bad
  | _ => .bad
theorem i_rng1 {a : Expr} {m : M} {p pos : Pos} (hg : Gl X "range") (hm : X.mg "range" = none) (ha : PE X a (dE Γ W m)) (hs : starEach [a] X.env = [(false, eval a X.env)] := by rfl) : PI X tg (.Call (.Name "range" p) [a] [] pos) (dI Γ W (miR1 m)) := by
  refine pi_imp (pi_range1 hg hm (pa_cons ha pa_nil hs) hs) ?_
  rintro σ H R ⟨μ, e, st, r, re, k⟩
  refine ⟨μ, e, st, r, re, KO.bind k fun d s1 μ1 H1 v _ e1 r1 q1 k1 => ?_⟩
  split at k1
  · split at k1
    · rename_i j _ h
      obtain ⟨h1, h2⟩ := of_decide_eq_true h
      cases q1.ofInt
      exact ⟨j, rfl, h1, h2, k1 μ1 H1 _ (Ext.refl _ _) r1 rj_rng⟩
    · exact k1.elim
  · exact k1.elim
def miR2 (m n : M) : MI := fun e st => (m e st).bind fun d s1 => (n e s1).bind fun d' s2 => match d, d' with
  | .int i, .int j => if decide (-(2 ^ 62) ≤ i ∧ i < 2 ^ 62 ∧ -(2 ^ 62) ≤ j ∧ j < 2 ^ 62) then .ok ((j - i).toNat, rgs i (j - i).toNat) s2 else .bad
  | _, _ => .bad
theorem i_rng2 {a b : Expr} {m n : M} {p pos : Pos} (hg : Gl X "range") (hm : X.mg "range" = none) (ha : PE X a (dE Γ W m)) (hb : PE X b (dE Γ W n)) (hs : starEach [a, b] X.env = [(false, eval a X.env), (false, eval b X.env)] := by rfl) (hs2 : starEach [b] X.env = [(false, eval b X.env)] := by rfl) :
    PI X tg (.Call (.Name "range" p) [a, b] [] pos) (dI Γ W (miR2 m n)) := by
  refine pi_imp (pi_range2 hg hm (pa_cons ha (pa_cons hb pa_nil hs2) (by rw [hs, hs2])) hs hs2) ?_
  rintro σ H R ⟨μ, e, st, r, re, k⟩
  refine ⟨μ, e, st, r, re, KO.bind k fun d s1 μ1 H1 v _ e1 r1 q1 k1 => ?_⟩
  refine ⟨μ1, e, s1, r1, re.mono e1, KO.bind k1 fun d' s2 μ2 H2 u _ e2 r2 q2 k2 => ?_⟩
  split at k2
  · split at k2
    · rename_i i j _ _ h
      cases q1.ofInt
      cases q2.ofInt
      exact ⟨i, j, rfl, of_decide_eq_true h, k2 μ2 H2 _ (Ext.refl _ _) r2 rj_rng⟩
    · exact k2.elim
  · exact k2.elim

/-! ### targets of a comprehension: they store its own names alone -/
def dW (Γ : Cfg) (own : List Nat) (g : MG) : TG := fun v σ H Q => ∃ μ e d e', RE Γ μ H e σ ∧ RD Γ μ H d v ∧ g d e = some e' ∧ ∀ σ', RE Γ μ H e' σ' → wipe σ' own = wipe σ own → Q σ' H
def dWs (Γ : Cfg) (own : List Nat) (g : MGs) : TGs := fun vs σ H Q => ∃ μ e l e', RE Γ μ H e σ ∧ RDs Γ μ H l vs ∧ g l e = some e' ∧ ∀ σ', RE Γ μ H e' σ' → wipe σ' own = wipe σ own → Q σ' H
theorem wipe_set {σ : L2.St} {i : Nat} {o : Option V} : ∀ {own : List Nat}, i ∈ own → wipe (σ.set i o) own = wipe σ own
  | v :: vs, h => by
    unfold wipe
    by_cases hv : i ∈ vs
    · rw [wipe_set hv]
    · have e : i = v := by
        rcases List.mem_cons.mp h with q | q
        · exact q
        · exact absurd q hv
      subst e
      have key : ∀ (l : List Nat) (σ : L2.St), i ∉ l → wipe (σ.set i o) l = (wipe σ l).set i o := by
        intro l
        induction l with
        | nil => intro σ _; rfl
        | cons k l ih =>
          intro σ hk
          have h1 : i ≠ k := fun z => hk (by simp [z])
          have h2 : i ∉ l := fun z => hk (List.mem_cons_of_mem _ z)
          unfold wipe
          rw [ih σ h2, List.set_comm _ _ h1]
      rw [key vs σ hv, List.set_set]
theorem wipe_sub {σ : L2.St} {own : List Nat} : ∀ {l : List Nat}, (∀ i ∈ l, i ∈ own) → wipe (wipe σ l) own = wipe σ own
  | [], _ => rfl
  | v :: vs, h => by
    show wipe ((wipe σ vs).set v none) own = _
    rw [wipe_set (h v List.mem_cons_self)]
    exact wipe_sub fun i hi => h i (List.mem_cons_of_mem _ hi)
theorem w_name {own : List Nat} {i : Nat} {x : Str} {pos : Pos} (ho : Off Γ i) (hm : i ∈ own) (hN : X.N.Nodup) (hi : X.N[i]? = some x) (hx : Loc X.env.scope x) (hf : X.fn x = true ∨ X.env.scope.names.lookup x = some .local) : PG X (.Name x pos) (dW Γ own (gN i)) := by
  refine pg_imp (pg_name hN hi hx hf) ?_
  rintro v σ H Q ⟨μ, e, d, e', re, rd, hg, k⟩
  cases hg
  exact k _ (re.set rd ho) (wipe_set hm)
theorem ws_nil {own : List Nat} : PGs X [] (dWs Γ own gNil') := by
  refine pgs_imp pgs_nil ?_
  rintro v σ H Q ⟨μ, e, l, e', re, rd, hg, k⟩
  unfold gNil' at hg
  split at hg
  · cases hg; cases rd.unnil; exact ⟨rfl, k _ re rfl⟩
  · cases hg
theorem ws_cons {own : List Nat} {t : Expr} {ts : List Expr} {g : MG} {r : MGs} (h1 : PG X t (dW Γ own g)) (h2 : PGs X ts (dWs Γ own r)) (hs : (assignEach (t :: ts) X.env).map (·.2) = assign t X.env :: (assignEach ts X.env).map (·.2) := by rfl) : PGs X (t :: ts) (dWs Γ own (gCons' g r)) := by
  refine pgs_imp (pgs_cons h1 h2 hs) ?_
  rintro v σ H Q ⟨μ, e, l, e', re, rd, hg, k⟩
  unfold gCons' at hg
  split at hg
  · rename_i d l
    obtain ⟨u, w, rfl, h3, h4⟩ := rd.uncons
    obtain ⟨e1, h5, h6⟩ := Option.bind_eq_some_iff.mp hg
    exact ⟨u, w, rfl, μ, e, d, e1, re, h3, h5, fun σ1 re1 w1 => ⟨μ, e1, l, e', re1, h4, h6, fun σ2 re2 w2 => k σ2 re2 (w2.trans w1)⟩⟩
  · cases hg
theorem w_tup {own : List Nat} {es : List Expr} {j : Nat} {pos : Pos} {g : MGs} {n : Nat} (hK : X.K = Γ.K) (hc : X.calm = true) (h : PGs X es (dWs Γ own g)) (hn : (assignEach es X.env).length = n := by rfl) (hst : (assignEach es X.env).findIdx? (·.1) = none := by rfl) : PG X (.Tuple es j pos) (dW Γ own (gT g n)) := by
  refine pg_imp (pg_tup hc h hn hst) ?_
  rintro v σ H Q ⟨μ, e, d, e', re, rd, hg, k⟩
  unfold gT at hg
  cases ht : tupOf d with
  | none => rw [ht] at hg; cases hg
  | some l =>
    rw [ht] at hg
    dsimp only at hg
    split at hg
    · rename_i hl
      obtain ⟨a, vs, rfl, h1, h2⟩ := tupOf_rd rd ht
      rw [hK]
      exact ⟨a, vs, rfl, h1, by rw [h2.length]; exact hl, μ, e, l, e', re, h2, hg, k⟩
    · cases hg

/-! ### [elt for target in iter if test] -/
def wipeD (e : Slots) : List Nat → Slots
  | [] => e
  | i :: l => (wipeD e l).set i none
theorem REl.wipe {μ : List Addr} {H : Hp} {e : Slots} {σ : L2.St} (h : REl Γ μ H e σ) : ∀ own : List Nat, REl Γ μ H (wipeD e own) (wipe σ own)
  | [] => h
  | i :: l => (REl.wipe h l).forget i
abbrev W0 : WX := fun _ _ _ _ => False
/-- no exception leaves a comprehension here -/
def noX {α : Type} (r : Res α) : Res α := match r with
  | .exc _ _ => .bad
  | r => r
theorem KO.noX {α β : Type} {rel : List Addr → Hp → α → β → Prop} {μ : List Addr} {H : Hp} {Wk Wk' : XK} {r : Res α} {Q : β → Hp → Prop} (h : KO Γ rel μ H Wk (noX r) Q) : KO Γ rel μ H Wk' r Q := by
  cases r with
  | ok d st => exact h
  | exc x st => exact h.elim
  | bad => exact h
def lcL (nx : Nxt) (g : MG) (t : MT) (m : M) (n0 : Nat) : Nat → Nat → Slots → Sto → Res Unit
  | 0, i => fun e st => match nx i st with
    | some none => .ok () st
    | _ => .bad
  | f + 1, i => fun e st => match nx i st with
    | none => .bad
    | some none => .ok () st
    | some (some d) => match g d e with
      | none => .bad
      | some e1 => (noX (t e1 st)).bind fun b s1 => if b then (noX (m e1 s1)).bind fun y s2 => match s2[n0]? with
          | some (.lst acc) => if acc.length < sizeLine then lcL nx g t m n0 f (i + 1) e (s2.set n0 (.lst (acc ++ [y]))) else .bad
          | _ => .bad
        else lcL nx g t m n0 f (i + 1) e s1
/-- own: the slots of the comprehension's own names -/
def mLC (mi : MI) (g : MG) (t : MT) (m : M) (own : List Nat) : M := fun e st => (mi e st).bind fun p s1 => (lcL p.2 g t m s1.length p.1 0 (wipeD e own) (s1 ++ [.lst []])).bind fun _ s2 => .ok (.loc s1.length) s2
def rU : List Addr → Hp → Unit → Unit → Prop := fun _ _ _ _ => True
theorem lc_of {mi : MI} {g : MG} {t : MT} {m : M} {own : List Nat} {σ : L2.St} {H : Hp} {Q : VK} (hc : Γ.cur = none) (h : dE Γ W (mLC mi g t m own) σ H Q) : tLc (dI Γ W mi) (dW Γ own g) (dT Γ W0 t) (dE Γ W0 m) own σ H Q := by
  obtain ⟨μ, e, st, r, re, k⟩ := h
  refine ⟨μ, e, st, r, re, KO.bind k fun p s1 μ1 H1 J _ e1 r1 j1 k1 => ?_⟩
  intro Da hD
  have eN : Ext μ1 H1 (μ1 ++ [Da]) (upd H1 Da (.lst [])) := Ext.new hD
  have r2 : RS Γ (μ1 ++ [Da]) (upd H1 Da (.lst [])) (s1 ++ [.lst []]) := r1.lstNew RDs.nil hD
  have hn0 : (μ1 ++ [Da])[s1.length]? = some Da := by rw [← r1.len]; simp
  have re2 : REl Γ (μ1 ++ [Da]) (upd H1 Da (.lst [])) (wipeD e own) (wipe σ own) := ((re.mono e1).mono eN).l.wipe own
  have k2 : KO Γ rU (μ1 ++ [Da]) (upd H1 Da (.lst [])) (fun c d H' => W c d σ H') (lcL p.2 g t m s1.length p.1 0 (wipeD e own) (s1 ++ [.lst []])) (fun (_ : Unit) H' => Q (.ref Da) H') :=
    KO.bind (KO.mono eN k1) fun _ s2 μ2 H2 _ _ e2 r2 _ k3 => k3.ok r2 (by unfold RD; exact ⟨Da, e2.pre _ _ hn0, rfl⟩)
  refine ⟨fun i n H' => ∃ μ' st', Ext (μ1 ++ [Da]) (upd H1 Da (.lst [])) μ' H' ∧ RS Γ μ' H' st' ∧ KO Γ rU μ' H' (fun c d H' => W c d σ H') (lcL p.2 g t m s1.length n i (wipeD e own) st') (fun (_ : Unit) H' => Q (.ref Da) H'), ⟨p.1, _, _, Ext.refl _ _, r2, k2⟩, ?_⟩
  rintro i n H3 ⟨μ3, st3, e3, r3, k3⟩
  have j3 := j1 i μ3 H3 st3 (eN.trans e3) r3
  cases n with
  | zero =>
    unfold lcL at k3
    split at k3
    · rename_i hn
      exact .inl ⟨j3.1 hn, k3.ok (v := ()) r3 trivial⟩
    · exact k3.elim
  | succ n =>
    unfold lcL at k3
    split at k3
    · exact k3.elim
    · rename_i hn
      exact .inl ⟨j3.1 hn, k3.ok (v := ()) r3 trivial⟩
    · rename_i d hn
      obtain ⟨go, y⟩ := j3.2 d hn
      refine .inr ⟨go, fun H' => ∃ μ' st', Ext (μ1 ++ [Da]) (upd H1 Da (.lst [])) μ' H' ∧ RS Γ μ' H' st' ∧ KO Γ rU μ' H' (fun c d H' => W c d σ H') (lcL p.2 g t m s1.length n (i + 1) (wipeD e own) st') (fun (_ : Unit) H' => Q (.ref Da) H'), fun H' h => ⟨n, Nat.lt_succ_self n, h⟩, fun x H4 hy => ?_⟩
      obtain ⟨x4, r4, q4⟩ := y x H4 hy
      split at k3
      · exact k3.elim
      · rename_i ea hg
        have re4 : RE Γ μ3 H4 (wipeD e own) (wipe σ own) := ⟨re2.mono (e3.trans x4), fun q hq => by rw [hc] at hq; cases hq⟩
        refine ⟨μ3, wipeD e own, d, ea, re4, q4, hg, fun σ' re' hw => ⟨hw.trans (wipe_sub fun _ h => h), ?_⟩⟩
        have k4 := KO.mono x4 k3
        refine ⟨μ3, ea, st3, r4, re', KO.noX (KO.bind k4 fun b s5 μ5 H5 b' hb x5 r5 q5 k5 => ?_)⟩
        cases q5
        cases b with
        | false => exact iteF ⟨μ5, s5, (e3.trans x4).trans x5, r5, k5⟩
        | true =>
          refine iteT ⟨μ5, ea, s5, r5, re'.mono x5, KO.noX (KO.bind k5 fun z s6 μ6 H6 v hz x6 r6 q6 k6 => ?_)⟩
          split at k6
          · rename_i acc hacc
            split at k6
            · rename_i hlen
              have hm6 : μ6[s1.length]? = some Da := (((e3.trans x4).trans x5).trans x6).pre _ _ hn0
              obtain ⟨a, ha, us, h1, h2⟩ := r6.ob _ _ hacc
              rw [hm6] at ha
              cases ha
              refine ⟨us, h1, by rw [h2.length]; exact hlen, ?_⟩
              have ep : Ext μ6 H6 μ6 (upd H6 Da (.lst (us ++ [v]))) := Ext.put h1 id hm6
              obtain ⟨r7, _⟩ := r6.put (o := .lst (us ++ [v])) (ob := .lst (acc ++ [z])) hm6 ⟨_, upd_same, (h2.mono ep).append (RDs.cons (q6.mono ep) RDs.nil)⟩
              exact ⟨μ6, _, (((e3.trans x4).trans x5).trans x6).trans ep, r7, KO.mono ep k6⟩
            · exact k6.elim
          · exact k6.elim
def mtYes : MT := fun _ st => .ok true st
theorem mts_nil : PTs X [] (dT Γ W mtYes) := ⟨fun pins s σ H Q I ⟨μ, e, st, r, re, k⟩ => pts_nil.run pins s σ H Q I (k.ok r rfl)⟩
theorem mts_one {c : Expr} {t : MT} (h : PT X c (dT Γ W t)) : PTs X [c] (dT Γ W t) := pts_one h
theorem m_lc {elt iter : Expr} {ifs : List Expr} {scope : Scope} {own : List (Str × Nat)} {pos : Pos} {mi : MI} {g : MG} {t : MT} {m : M} (hcu : Γ.cur = none) (hc : X.calm = true) (hN : X.N.Nodup) (hi : PI X tg iter (dI Γ W mi)) (ok : BlkOk X.N X.env.scope scope own)
    (hg : ∀ (s : Shared) (H : Hp) (C : Addr) (cl : List (Str × Addr)) (fp : List Addr), PG (X.blk s H scope (compEnvC scope cl C X.env) fp) tg (dW Γ (own.map (·.2)) g)) (ht : ∀ (s : Shared) (H : Hp) (C : Addr) (cl : List (Str × Addr)) (fp : List Addr), PTs (X.blk s H scope (compEnvC scope cl C X.env) fp) ifs (dT Γ W0 t))
    (he : ∀ (s : Shared) (H : Hp) (C : Addr) (cl : List (Str × Addr)) (fp : List Addr), PE (X.blk s H scope (compEnvC scope cl C X.env) fp) elt (dE Γ W0 m)) (hs : ∀ x, foldedSetIterable iter X.env x = pure x := by intro _; rfl) :
    PE X (.ListComp elt [⟨tg, iter, ifs, 0⟩] scope pos) (dE Γ W (mLC mi g t m (own.map (·.2)))) := pe_imp (pe_lc hc hN hi ok hg ht he hs) fun _ _ _ h => lc_of hcu h
/-- name = [..] on one line -/
theorem s_setLC {i : Nat} {y : Str} {py spos pos : Pos} {elt iter : Expr} {ifs : List Expr} {scope : Scope} {own : List (Str × Nat)} {mi : MI} {g : MG} {t : MT} {m : M} (ho : Off Γ i) (hcu : Γ.cur = none) (hc : X.calm = true) (hN : X.N.Nodup) (hy : X.N[i]? = some y) (hyl : X.env.scope.names.lookup y = some .local)
    (hsw : swapsWith (.ListComp elt [⟨tg, iter, ifs, 0⟩] scope pos) (some (.Name y py)) spos.line X.env = pure true) (hi : PI X tg iter (dI Γ W mi)) (ok : BlkOk X.N X.env.scope scope own)
    (hg : ∀ (s : Shared) (H : Hp) (C : Addr) (cl : List (Str × Addr)) (fp : List Addr), PG (X.blk s H scope (compEnvC scope cl C X.env) fp) tg (dW Γ (own.map (·.2)) g)) (ht : ∀ (s : Shared) (H : Hp) (C : Addr) (cl : List (Str × Addr)) (fp : List Addr), PTs (X.blk s H scope (compEnvC scope cl C X.env) fp) ifs (dT Γ W0 t))
    (he : ∀ (s : Shared) (H : Hp) (C : Addr) (cl : List (Str × Addr)) (fp : List Addr), PE (X.blk s H scope (compEnvC scope cl C X.env) fp) elt (dE Γ W0 m)) (hs : ∀ x, foldedSetIterable iter X.env x = pure x := by intro _; rfl) :
    PS X (.Assign [.Name y py] (.ListComp elt [⟨tg, iter, ifs, 0⟩] scope pos) spos) (dS Γ W (sAsg (mLC mi g t m (own.map (·.2))) (gN i))) := by
  refine ps_imp (ps_setLc hc hN hy hyl hsw hi ok hg ht he hs) ?_
  rintro D σ H ⟨μ, e, sto, r, re, k⟩
  have h : dE Γ W (mLC mi g t m (own.map (·.2))) σ H (fun x H1 => gName i x σ H1 D.nx) := by
    refine ⟨μ, e, sto, r, re, KS.bindR re k fun d s1 μ1 H1 v _ e1 r1 q1 k1 => ?_⟩
    exact KS.nx (e := e.set i (some d)) k1 r1 ((re.mono e1).set q1 ho)
  exact lc_of hcu h
end
end Mp

set_option Elab.async false
set_option linter.all false
set_option maxRecDepth 100000
set_option maxHeartbeats 2000000
/-! Mp13: own exceptions whose __init__ says super().__init__(x) and keeps x in a field: made. -/
namespace Mp
open PySem PySem.W PySem.Calls PyProof.Rows

def xA (fn : Str) (p1 p2 : Pos) : Arguments := { posonlyargs := [], args := [{ arg := "self", annotation := none, pos := p1 }, { arg := fn, annotation := none, pos := p2 }], vararg := none, kwonlyargs := [], kw_defaults := [], kwarg := none, defaults := [] }
def xBody (fn : Str) (q1 q2 q3 q4 q5 q6 q7 q8 q9 q10 : Pos) : List Stmt :=
  [.Expr (.Call (.Attribute (.Call (.Name "super" q1) [] [] q2) "__init__" q3) [.Name fn q4] [] q5) q6, .Assign [.Attribute (.Name "self" q7) fn q8] (.Name fn q9) q10]
def xScope (fn : Str) : Scope := { kind := .function, names := [(PySem.Str.ofString "self", .local), (fn, .local), (PySem.Str.ofString "__class__", .free), (PySem.Str.ofString "super", .globalImplicit)], isGenerator := false, isCoroutine := false, more := [] }

inductive XTail : List Value → String → String → String → Prop
  | ve {bm : List Value} (h : HandSPX.refsVE bm = true) : XTail bm "ValueError" "ValueError.__new__" "ValueError.__init__"
  | ex : XTail ESX.exTail "Exception" "Exception.__new__" "Exception.__init__"
section
variable {prog : Program} {w : World} {A : Around} {E : Value → Shared → Prop} {R : Result → Shared → Prop} {hp : Heap} {g : Array GenState} {d : Drawn} {t : Nat} {os : OsState}
theorem XTail.has {bm : List Value} {B nI iI : String} (T : XTail bm B nI iI) : ∃ bmB, ExcBaseFacts B nI iI bmB ∧ ∀ Y : String, bm.contains (.type Y) = bmB.contains (.type Y) := by
  cases T with
  | ve h => exact ⟨_, F.excBase_ValueError, fun Y => HandSPX.refsVE_contains Y bm h⟩
  | ex => exact ⟨_, F.excBase_Exception, fun Y => rfl⟩
theorem XTail.kx {bm : List Value} {B nI iI : String} (T : XTail bm B nI iI) : KxsFacts B iI := by
  cases T with
  | ve h => exact kxs_ValueError
  | ex => exact kxs_Exception
theorem XTail.osa {bm : List Value} {B nI iI : String} (T : XTail bm B nI iI) {K : W.Frag} {name : Str} {tk : Tok} {v : Value} {x C : Addr} {fv : Array Value} {cd : ClassData}
    (X : K.In hp) (hx : hp.get? x = some { cls := .ref C, data := .fields fv }) (hcd : W.clsIn K C = some cd) (hm : cd.mro = .ref C :: bm) (hh : cd.hasDict = true) (ha : W.findIn K (.ref C) name = some none)
    (hq : ∀ h' tk' dx, (∀ b o, b ≠ x → hp.get? b = some o → h'.get? b = some o) → hp.objs.size ≤ dx → dx ≠ x → h'.get? x = some { cls := .ref C, dict := some dx, data := .fields fv } →
      h'.Ns1 dx (fun y => if y = name then some v else none) → R (.ok (.ret .none)) ⟨h', g, d, tk', os⟩) :
    codeAny (model prog w) A (.call (.builtin "object.__setattr__") ⟨[.ref x, .str name tk, v], []⟩) R ⟨hp, g, d, t, os⟩ := by
  cases T with
  | ve h => exact HandSPX.exc_osa X hx hcd (by rw [hm]; exact h) hh ha hq
  | ex => exact ESX.osa_new X hx hcd hm hh ha hq
end
structure XTxt (P : Program) (K : Frag) (mg : Str → Option Value) (C D fI : Addr) (fn : Str) : Prop where
  cls : ∃ nm q N bs bm sn sub ab col dd k0 k1 k2 k3 k5 B nI iI, K.lookup C = some (excClassObj nm q C N bs bm true sn sub ab col dd k0 k1 k2 k3 k5 nI) ∧ XTail bm B nI iI ∧
    alongIn K "__init__" (((Value.ref C :: bm).dropWhile (· != .ref D)).drop 1) = some (some (.builtin iI)) ∧ subIn K (.ref C) (.type B) = some true
  sa : findIn K (.ref C) "__setattr__" = some (some (.builtin "object.__setattr__"))
  ga : findIn K (.ref C) "__getattribute__" = some (some (.builtin "BaseException.__getattribute__"))
  gg : findIn K (.ref C) "__getattr__" = some none
  noN : findIn K (.ref C) fn = some none
  iC : findIn K (.ref C) "__init__" = some (some (.ref fI))
  tC : typeIn K (.ref fI) = some (.type "function")
  kC : keepIn K (.ref C) = true
  exC : subIn K (.ref C) (.type "BaseException") = some true
  tyC : typeIn K (.ref C) = some (.type "type")
  hdC : hasDictIn K C = true
  oany : nsIn K cStatics "thirdparty.any" = some none
  top : (P.main.scope.names.lookup ("super" : Str)).isSome = false
  mgS : mg "super" = none
  sub : mroIn K C (.ref D) = some true
  clD : ∃ cdD, clsIn K D = some cdD
  four : fn = "reason" ∨ fn = "term" ∨ fn = "at" ∨ fn = "line"
  fn : ∃ (oc : Value) (od : Option Addr) (doc pm : Value) (an : Option Addr) (cda : Addr) (ct : Value) (osl : Array (Option Value)) (qual : Str) (cc : Addr) (p1 p2 q1 q2 q3 q4 q5 q6 q7 q8 q9 q10 : Pos)
      (vs : Array Value) (file : Str) (tf : Tok) (ccl cl : Value) (cdd cld : Option Addr) (ccs csl : Array (Option Value)),
    K.lookup fI = some ⟨oc, od, .func (ksFn "__init__" qual (xA fn p1 p2) (xBody fn q1 q2 q3 q4 q5 q6 q7 q8 q9 q10) (xScope fn) .none .none doc pm an (.ref cda) ct cc), osl⟩ ∧ codeIn K (.ref cda) qual = true ∧
    K.lookup cda = some ⟨ccl, cdd, .fields vs, ccs⟩ ∧ vs[2]? = some (.str file tf) ∧ (q3.endLine == q5.line) = true ∧ ((P.main.file : Str) == file) = true ∧ K.lookup cc = some ⟨cl, cld, .cell (some (.ref D)), csl⟩
structure XInitEnd (fn : Str) (h h' : Heap) (x C dx t1 : Addr) (v : Value) : Prop where
  keep : ∀ b o, b ≠ x → h.get? b = some o → h'.get? b = some o
  obj : h'.get? x = some { cls := .ref C, dict := some dx, data := .fields #[.ref t1, .none, .none, .none, .bool false, .none] }
  dbig : h.objs.size ≤ dx
  dne : dx ≠ x
  ns : h'.Ns1 dx (fun y => if y = fn then some v else none)
structure XMade (fn : Str) (h h' : Heap) (e C d : Addr) (v : Value) : Prop where
  keep : ∀ b o, h.get? b = some o → h'.get? b = some o
  new : h.objs.size ≤ e
  obj : ∃ oe vs, h'.get? e = some oe ∧ oe.cls = .ref C ∧ oe.dict = some d ∧ oe.data = .fields vs ∧ vs[1]? = some .none
  dbig : h.objs.size ≤ d
  dne : d ≠ e
  ns : h'.Ns1 d (fun y => if y = fn then some v else none)
theorem x_one (v : Value) : [v].length ≤ sizeLine := by
  rw [sizeLine_eq]
  exact (by decide : 1 ≤ 16777216)
theorem x_kept {K : Frag} {h h' : Heap} {x : Addr} (X : K.In h) (hx : K.lookup x = none) (k : ∀ b o, b ≠ x → h.get? b = some o → h'.get? b = some o) : K.In h' := fun a o e =>
  k a o (fun z => by rw [z, hx] at e; cases e) (X a o e)
theorem ldX {M : Model} {A : Around} {E : Value → Shared → Prop} {s : Shared} {name : Str} {scope : Scope} {L a : Addr} {cd : Value} {cc : Addr} {m : Str → Option Value} {x : Str} {pos : Pos} {v : Value} {Q : Value → Shared → Prop} (hn : s.heap.Ns L m) (hv : m x = some v) (h : Q v s)
    (hk : scope.kind = .function) (hl : (ksEnv name scope L a cd cc).kindOf x = some .local) (hd : (x == ("__debug__" : Str)) = false) :
    wpAny M A (eval (.Name x pos) (ksEnv name scope L a cd cc)) Q E s := wpAny_Name (wpAny_loadName_local hk hl hn hv h) hd
theorem mc_eq {o : Expr} {nm fn : Str} {q4 a pos : Pos} {env : Env} (hl : (a.endLine == pos.line) = true) : eval (.Call (.Attribute o nm a) [.Name fn q4] [] pos) env = (do
      let ov ← attributeBase o nm env (eval o env)
      standAt a.atName
      let (f, first) ← holding [ov] (getMethod ov nm (do return (← importBound o env).getD true))
      callWith pos f first (backTo pos (starEach [.Name fn q4] env)) []) := by
  have hp : ∀ (few : Bool), methodCallPos few o env a pos = pure pos := fun few => by
    unfold methodCallPos
    rw [hl, Bool.or_true]
    rfl
  show (do
      let ov ← attributeBase o nm env (eval o env)
      standAt a.atName
      methodCall o nm a pos env ov ([Expr.Name fn q4].length + ([] : List Keyword).length) (backTo pos (starEach [.Name fn q4] env)) (backToKw pos (keywordEach [] env))) = _
  unfold methodCall
  simp only [hp, pure_bind]
  rfl
section
variable {prog : Program} {w : World} {A : Around} {E : Value → Shared → Prop} {R : Result → Shared → Prop} {s : Shared} {K : Frag} {mg mb : Str → Option Value} {C D fI : Addr} {fn : Str}
theorem x_init (T : XTxt prog K mg C D fI fn) {x t0 : Addr} {v : Value} (X : K.In s.heap) (hG : s.heap.Ns mainGlobals mg) (hB : s.heap.Ns builtinsNs mb) (hmb : mb "super" = some (.type "super")) (hlim : s.heap.NoLimit) (hx : s.heap.get? x = some (HandSPX.excO C t0)) (hnx : K.lookup x = none) (hroom : A.depth < recursionLimit)
    (hq : ∀ h' tk dx t1, XInitEnd fn s.heap h' x C dx t1 v → R (.ok (.ret .none)) { s with heap := h', toks := tk }) :
    codeAny (model prog w) A (.call (.ref fI) ⟨[.ref x, v], []⟩) R s := by
  obtain ⟨oc, od, doc, pm, an, cda, ct, osl, qual, cc, p1, p2, q1, q2, q3, q4, q5, q6, q7, q8, q9, q10, vs, file, tf, ccl, cl, cdd, cld, ccs, csl, ho, hcd, hco, hvs, hline, hfile, hce⟩ := T.fn
  obtain ⟨nm, q, N, bs, bm, sn, sub, ab, col, dd, k0, k1, k2, k3, k5, B, nI, iI, hC, XT, hal, hsB⟩ := T.cls
  obtain ⟨cdD, hD⟩ := T.clD
  have hcl : clsIn K C = some { name := nm, bases := bs, mro := .ref C :: bm, ns := N, qualname := q, hasDict := true, slotNames := sn, subclasses := sub, abstract := ab, collection := col, hasDel := false } := by unfold clsIn; rw [hC] <;> rfl
  refine ks_codeAny_call_defAt (fd := ksFn "__init__" qual (xA fn p1 p2) (xBody fn q1 q2 q3 q4 q5 q6 q7 q8 q9 q10) (xScope fn) .none .none doc pm an (.ref cda) ct cc) (binds := [("self", .ref x), (fn, v)])
    hroom (X _ _ ho) rfl hlim (codeRec_of X hcd) rfl (BindsTo.of_eq (by rcases T.four with e | e | e | e <;> subst e <;> rfl)) (by
      intro y hy
      have hy : y ∈ (xScope fn).names := hy
      simp only [xScope, List.mem_cons, List.not_mem_nil, or_false] at hy
      rcases hy with rfl | rfl | rfl | rfl <;> exact fun z => nomatch z)
    (by rcases T.four with e | e | e | e <;> subst e <;> exact locs rfl) (fun h₁ hn k => ?_) rfl rfl rfl
  have X₁ : K.In h₁ := X.keeps k
  have hx₁ := k _ _ hx
  have kS : (callEnv (ksFn "__init__" qual (xA fn p1 p2) (xBody fn q1 q2 q3 q4 q5 q6 q7 q8 q9 q10) (xScope fn) .none .none doc pm an (.ref cda) ct cc) s.heap.objs.size fI).kindOf "super" = some .globalImplicit := by rcases T.four with e | e | e | e <;> subst e <;> rfl
  have kC : (callEnv (ksFn "__init__" qual (xA fn p1 p2) (xBody fn q1 q2 q3 q4 q5 q6 q7 q8 q9 q10) (xScope fn) .none .none doc pm an (.ref cda) ct cc) s.heap.objs.size fI).kindOf "__class__" = some .free := by rcases T.four with e | e | e | e <;> subst e <;> rfl
  have kF : (callEnv (ksFn "__init__" qual (xA fn p1 p2) (xBody fn q1 q2 q3 q4 q5 q6 q7 q8 q9 q10) (xScope fn) .none .none doc pm an (.ref cda) ct cc) s.heap.objs.size fI).kindOf fn = some .local := by rcases T.four with e | e | e | e <;> subst e <;> rfl
  have dF : (fn == ("__debug__" : Str)) = false := by rcases T.four with e | e | e | e <;> subst e <;> decide
  have mS : (fun y => List.lookup y ([(("self" : Str), Value.ref x), (fn, v)].reverse)) "self" = some (.ref x) := by rcases T.four with e | e | e | e <;> subst e <;> rfl
  have mF : (fun y => List.lookup y ([(("self" : Str), Value.ref x), (fn, v)].reverse)) fn = some v := by rcases T.four with e | e | e | e <;> subst e <;> rfl
  obtain ⟨oD, hD1, hD2⟩ : ∃ oD, h₁.get? D = some oD ∧ oD.data = .cls cdD := by
    unfold clsIn at hD
    split at hD
    · rename_i c d cd' sl ho
      cases hD
      exact ⟨_, X₁ _ _ ho, rfl⟩
    · cases hD
  obtain ⟨hp, g, d, t, os⟩ := s
  refine ks_wpAt_execs_cons (ks_wpAt_Expr_any (ks_wpAt_MethodCall ?_ (mc_eq hline)) rfl (by rcases T.four with e | e | e | e <;> subst e <;> rfl))
  refine ks_wpAt_super_base kS kC (by decide) rfl (X₁ _ _ ho) rfl rfl rfl (X₁ _ _ hco) rfl hvs hfile T.top ?_
  refine ks_loadName_global rfl kS (loadGlobal_builtin (hG.keeps k) T.mgS (hB.keeps k) hmb ⟨rfl, ?_⟩)
  refine wpAny_loadName_free rfl kC rfl ⟨_, X₁ _ _ hce, rfl⟩ ?_
  refine wpAny_loadName_local rfl rfl hn mS ?_
  refine ks_wpAny_isType_cls hD1 hD2 ⟨rfl, ?_⟩
  refine ks_wpAny_call_super hD1 hD2 hx₁ rfl (fun c e => nomatch e) (looks_mroIn X₁ T.sub) (fun h₂ e₂ k₂ => ?_)
  have X₂ : K.In h₂ := X₁.keeps k₂
  have hx₂ := k₂ _ _ hx₁
  have hxC : x ≠ C := fun e => by
    rw [e, hC] at hnx
    cases hnx
  have I₂ : InstAt h₂ x (HandSPX.excO C t0) C none := ⟨hx₂, rfl, rfl, trivial⟩
  refine kxs_getMethod XT.kx e₂ (looks_opaque X₂ T.oany) (l₀ := .ref C :: bm) ?_ rfl X₂ hal (I₂.type.andThen (looks_subIn X₂ hsB)) hxC (by decide) ?_
  · exact (looks_clsIn X₂ hcl).andThen .now
  have sS : starEach [Expr.Name fn q4] (callEnv (ksFn "__init__" qual (xA fn p1 p2) (xBody fn q1 q2 q3 q4 q5 q6 q7 q8 q9 q10) (xScope fn) .none .none doc pm an (.ref cda) ct cc) hp.objs.size fI) = (false, eval (.Name fn q4) _) :: starEach [] _ := rfl
  have kk : ∀ b o, h₁.get? b = some o → (h₂.push (kxs_mw iI x)).get? b = some o := fun b o e => Heap.get?_push_of_some _ (k₂ b o e)
  have X₃ : K.In (h₂.push (kxs_mw iI x)) := X₁.keeps kk
  have hx₃ := kk _ _ hx₁
  have hu : (h₂.push (kxs_mw iI x)).get? h₂.objs.size = some (kxs_mw iI x) := Heap.get?_push_at rfl rfl
  have hnL : (h₂.push (kxs_mw iI x)).Ns hp.objs.size (fun y => List.lookup y ([(("self" : Str), Value.ref x), (fn, v)].reverse)) := hn.keeps kk
  obtain ⟨bmB, FB, hbm⟩ := XT.has
  refine kxs_callWith (i := iI) (x := x) (s := ⟨h₂.push (kxs_mw iI x), _, _, _, _⟩) (by rw [sS]; rfl) ?_
  rw [sS]
  refine evalArgs_plain (Calls.spliced_cons (ldX hnL mF ?_ rfl kF dF))
  refine Calls.spliced_nil ⟨hu, ?_⟩
  refine wpAny_call (codeAny_of_tree ?_)
  show wpAny _ _ (callAny (.ref h₂.objs.size) ⟨[v], []⟩) _ _ _
  simp only [callAny]
  refine wpAny_bind (wpAny_load hu ?_)
  simp only [kxs_mw, show (Value.type "method-wrapper" == Value.type "method" || Value.type "method-wrapper" == Value.type "builtin_function_or_method" || Value.type "method-wrapper" == Value.type "method-wrapper") = true by decide, if_true]
  refine KFB.if_so (by decide) ?_
  refine wpAny_bind (check_bound_init FB.toExcCallFacts (X₃ _ _ hC) hx₃ rfl ?_)
  refine wpAny_bind (wpAny_pure (wpAny_pure ?_))
  refine ⟨plainId_quiet FB.init.plain _, codeAny_builtin FB.initEntry ?_⟩
  refine exc_init_tree (cls := .ref C) (t0 := t0) (dv := none) (c2 := .none) (c3 := .none) (b4 := .bool false) hx₃ (x_one v) fun h₄ k₄ hx₄ _ => ?_
  show PySem.wpAt _ _ _ (execs _ _) _ _ _
  have hxL : hp.objs.size ≠ x := Nat.ne_of_gt (Heap.lt_size hx)
  have X₄ : K.In h₄ := x_kept X₃ hnx k₄
  have k14 : ∀ b o, b ≠ x → h₁.get? b = some o → h₄.get? b = some o := fun b o e z => k₄ b o e (kk b o z)
  have hn₄ : h₄.Ns hp.objs.size (fun y => List.lookup y ([(("self" : Str), Value.ref x), (fn, v)].reverse)) := (hn.keeps kk).at fun o e => k₄ _ _ hxL e
  refine ks_wpAt_execs_cons (ks_wpAt_Assign_Attr (wpAt_of_wpAny (ldX hn₄ mF ?_ rfl kF dF)) rfl)
  refine ldX hn₄ mS ?_ rfl rfl (by decide)
  refine set_plain X₄ (ox := { cls := .ref C, dict := none, data := .fields #[.ref (h₂.push (kxs_mw iI x)).objs.size, .none, .none, .none, .bool false, .none] }) (od := none) ⟨hx₄, rfl, rfl, trivial⟩ T.sa ?_
  refine XT.osa X₄ hx₄ hcl rfl rfl T.noN (fun h₅ tk₅ dx k₅ dn dne hx₅ hn₅ => ?_)
  refine wpAt_of_wpAny (wpAny_execs_nil (hq h₅ tk₅ dx _ ⟨fun b o hb e => k₅ b o hb (k14 b o hb (k b o e)), hx₅, Nat.le_of_lt (Nat.lt_of_lt_of_le hn₄.lt dn), dne, hn₅⟩))
theorem x_made (T : XTxt prog K mg C D fI fn) {v : Value} (X : K.In s.heap) (hG : s.heap.Ns mainGlobals mg) (hB : s.heap.Ns builtinsNs mb) (hmb : mb "super" = some (.type "super")) (hlim : s.heap.NoLimit) (hroom : A.depth + 1 < recursionLimit)
    (hq : ∀ h' tk e d, XMade fn s.heap h' e C d v → R (.ok (.ret (.ref e))) { s with heap := h', toks := tk }) :
    codeAny (model prog w) A (.call (.ref C) ⟨[v], []⟩) R s := by
  obtain ⟨nm, q, N, bs, bm, sn, sub, ab, col, dd, k0, k1, k2, k3, k5, B, nI, iI, hC, XT, hal, hsB⟩ := T.cls
  obtain ⟨bmB, FB, hbm⟩ := XT.has
  obtain ⟨hp, g, dr, tk, os⟩ := s
  have k : ∀ b o, hp.get? b = some o → ((hp.push (kdv_tup [v])).push (HandSPX.excO C hp.objs.size)).get? b = some o := fun b o e => Heap.get?_push_of_some _ (Heap.get?_push_of_some _ e)
  have hget : ((hp.push (kdv_tup [v])).push (HandSPX.excO C hp.objs.size)).get? (hp.objs.size + 1) = some (HandSPX.excO C hp.objs.size) := by heap_get
  have hnx : K.lookup (hp.objs.size + 1) = none := by
    cases e : K.lookup (hp.objs.size + 1) with
    | none => rfl
    | some o =>
      have z : hp.get? (hp.objs.size + 1) = some o := X _ _ e
      exact absurd (Nat.lt_of_succ_lt (Heap.lt_size z)) (Nat.lt_irrefl _)
  refine HandSPX.call_own FB hbm (X _ _ hC) (looks_findIn X T.iC) (fun self => bind_fn X self T.tC) (x_one v) ?_
  refine x_init (mb := mb) (s := ⟨(hp.push (kdv_tup [v])).push (HandSPX.excO C hp.objs.size), g, dr, tk, os⟩) T (X.keeps k) (hG.keeps k) (hB.keeps k) hmb (hlim.keeps k) hget hnx ?_ fun h' tk' dx t1 ⟨k', hx, dn, dne, hns⟩ => ?_
  · show A.depth + 1 < recursionLimit
    exact hroom
  · have old : ∀ b o, hp.get? b = some o → h'.get? b = some o := fun b o e => k' b o (Nat.ne_of_lt (Nat.lt_succ_of_lt (Heap.lt_size e))) (k b o e)
    have z : hp.objs.size + 1 + 1 ≤ dx := by
      first
        | (simpa only [Heap.size_push] using dn)
        | exact dn
        | (have q := dn; rw [Heap.size_push, Heap.size_push] at q; exact q)
    exact ⟨rfl, hq h' tk' (hp.objs.size + 1) dx ⟨old, Nat.le_succ _, ⟨_, _, hx, rfl, rfl, rfl, rfl⟩, Nat.le_trans (Nat.le_trans (Nat.le_succ _) (Nat.le_succ _)) z, dne, hns⟩⟩
end
end Mp
namespace Mp
open PySem PySem.Spec PyProof.Rows L2
theorem relO_one {fn : Str} {v : V} {v' : Value} (r : RelV v v') (f : Str) : RelO (List.lookup f [(fn, v)]) (if f = fn then some v' else none) := by
  by_cases hw : f = fn
  · subst hw
    rw [if_pos rfl]
    have q : List.lookup f [(f, v)] = some v := by simp [List.lookup]
    rw [q]
    exact r
  · rw [if_neg hw]
    have qw : (f == fn) = false := by simpa using hw
    have q2 : List.lookup f [(fn, v)] = none := by simp [List.lookup, qw]
    rw [q2]
    trivial
section
variable {X : Cx} {Γ : Cfg} {W : WX} {C D fI : Addr} {fn cn : Str}
def tMkX (fn : Str) (C : Addr) (ta : TA) : L2.St → Hp → XK → Prop := fun σ H Q => ta σ H fun vs H1 => ∃ v, vs = [v] ∧ ∀ d, H1 d = none → Q (.ref C) (some d) (upd H1 d (.xd [(fn, v)]))
theorem pmk_x {a : Expr} {ta : TA} {p pos : Pos} (T : XTxt X.prog X.K X.mg C D fI fn) (gC : X.mg cn = some (.ref C)) (hr : X.A.depth + 2 < recursionLimit) (ha : PA X [a] ta) (hg : Gl X cn) (hd : (cn == ("__debug__" : Str)) = false)
    (he : starEach (a :: []) X.env = (false, eval a X.env) :: starEach [] X.env := by rfl) (hpl : (backTo pos (starEach [] X.env)).any (·.1) = false := by rfl) :
    PMk X (.Call (.Name cn p) [a] [] pos) (tMkX fn C ta) := by
  intro pins s σ H Q I h
  refine wpAny_Call_Name_kw (ld_glob I hg gC ?_ hd)
  refine PySem.W.callWith_K (h₀ := X.base) I.ok.mod.kin T.kC (thn (ha.run pos pins s σ H _ I h) fun us s1 hh => ?_) he hpl
  obtain ⟨vs, H1, I1, r1, v, ev, q1⟩ := hh
  subst ev
  refine ⟨I1.kIn, ?_⟩
  cases r1 with
  | cons rv rn =>
    rename_i v' us'
    cases rn
    show wpAny _ _ (call (.ref C) [v']) _ _ _
    have hlim := I1.nolimit
    obtain ⟨mb, hB, hmb⟩ := I1.mod.blt
    have hG' := I1.mod.glob.keeps I1.bk
    have hB' := hB.keeps I1.bk
    obtain ⟨hp, g, dr, tk, os⟩ := s1
    refine wpAny_call (x_made T I1.kIn hG' hB' ((hmb "super" (by decide)).trans (by first | boot_by_name | rfl | kernel_rfl)) hlim (by
      show X.A.depth + 1 < recursionLimit
      omega) fun h' tk' e d M => ?_)
    show MkP X pins σ Q (.ref e) ⟨h', g, dr, tk', os⟩
    obtain ⟨oe, fv, hoe, hc, hd, hdat, h1⟩ := M.obj
    have hns := M.ns
    obtain ⟨G', g1, g2⟩ := restrict h' fun b => decide (b ≠ e)
    have gk : ∀ b, b ≠ e → G'.get? b = h'.get? b := fun b hb => g1 b (decide_eq_true hb)
    have ge : G'.get? e = none := g2 e (by simp)
    have old : ∀ b o, hp.get? b = some o → G'.get? b = some o := fun b o q => (gk b (Nat.ne_of_lt (Nat.lt_of_lt_of_le (Heap.lt_size q) M.new))).trans (M.keep b o q)
    have ob : ObjOk X.prog X.w (upd H1 d (.xd [(fn, v)])) G' d (.xd [(fn, v)]) :=
      ⟨_, hns.at (fun o q => (gk d M.dne).trans q), fun f => relO_one rv f⟩
    have J : Inv X pins σ (upd H1 d (.xd [(fn, v)])) ⟨G', g, dr, tk', os⟩ := I1.laid (t' := tk') old M.dbig ob
    refine ⟨e, oe, fv, ⟨G', g, dr, tk', os⟩, _, .ref C, some d, rfl, J, fun b o q => ?_, ge, hoe, ⟨hc, hd⟩, hdat, h1, ?_, rfl, I1.bare, raises_own T.exC T.tyC, q1 d (I1.hok.fresh M.dbig)⟩
    · by_cases hb : b = e
      · have q' : G'.get? b = some o := q
        rw [hb, ge] at q'; cases q'
      · exact (gk b hb).symm.trans q
    · rw [upd_ne (Ne.symm M.dne)]
      exact I1.hok.fresh M.new

/-- raise C(a) -/
def sRaise (c : Nat) (fn : Str) (ma : MA) : MS := fun e st => (ma e st).sr e fun l s => match l with
  | [d] => .exc ⟨c, [(fn, d)]⟩ e s
  | _ => .bad
theorem s_raise (c : Nat) {a : Expr} {ma : MA} {p pos pos2 : Pos} (hc : X.calm = true) (tk : Takes X W) (T : XTxt X.prog X.K X.mg (Γ.ca c) D fI fn) (gC : X.mg cn = some (.ref (Γ.ca c))) (hr : X.A.depth + 2 < recursionLimit) (ha : PA X [a] (dA Γ W ma)) (hg : Gl X cn := by rfl)
    (hd : (cn == ("__debug__" : Str)) = false := by decide) (he : starEach (a :: []) X.env = (false, eval a X.env) :: starEach [] X.env := by rfl) (hpl : (backTo pos (starEach [] X.env)).any (·.1) = false := by rfl) :
    PS X (.Raise (some (.Call (.Name cn p) [a] [] pos)) none pos2) (dS Γ W (sRaise c fn ma)) := by
  refine ps_imp (ps_raise hc tk (pmk_x T gC hr ha hg hd he hpl)) ?_
  rintro D σ H ⟨μ, e, sto, r, re, k⟩
  refine ⟨μ, e, sto, r, re, KS.bindR re k fun l s1 μ1 H1 vs _ e1 r1 q1 k1 => ?_⟩
  match l, q1 with
  | [d], q1 =>
    obtain ⟨v, rr, ev, q2, q3⟩ := q1
    have q3 : rr = [] := q3
    subst q3
    refine ⟨v, ev, fun d' hd' => ?_⟩
    exact k1 μ1 _ σ _ _ (Ext.new0 hd') (r1.new0 hd') ((re.mono e1).mono (Ext.new0 hd')) ⟨rfl, d', _, rfl, upd_same, v, [], rfl, q2.mono (Ext.new0 hd'), rfl⟩
  | [], q1 => exact k1.elim
  | _ :: _ :: _, q1 => exact k1.elim
end
end Mp

set_option Elab.async false
set_option linter.all false
set_option maxRecDepth 100000
set_option maxHeartbeats 2000000
/-! Mp14: try, except C as e. -/
namespace Mp
open PySem PySem.Spec PyProof.Rows L2
section
variable {Γ Δ : Cfg} {μ : List Addr} {H : Hp}
mutual
theorem RD.cong (hK : Γ.K = Δ.K) (hv : Γ.cv = Δ.cv) : ∀ {d : D} {v : V}, RD Γ μ H d v → RD Δ μ H d v
  | .non, _, h => by unfold RD at h ⊢; exact h
  | .bl _, _, h => by unfold RD at h ⊢; exact h
  | .int _, _, h => by unfold RD at h ⊢; exact h
  | .str _, _, h => by unfold RD at h ⊢; exact h
  | .tup l, _, h => by
    unfold RD at h ⊢
    obtain ⟨a, vs, h1, h2, h3⟩ := h
    exact ⟨a, vs, h1, h2, RDs.cong hK hv h3⟩
  | .wt l, _, h => by
    unfold RD at h ⊢
    obtain ⟨a, vs, h1, h2, h3⟩ := h
    exact ⟨a, vs, h1, hK ▸ h2, RDs.cong hK hv h3⟩
  | .fz l, _, h => by
    unfold RD at h ⊢
    obtain ⟨a, vs, h1, h2, h3⟩ := h
    exact ⟨a, vs, h1, hK ▸ h2, RDs.cong hK hv h3⟩
  | .loc _, _, h => by unfold RD at h ⊢; exact h
  | .cst _, _, h => by unfold RD at h ⊢; rw [← hv]; exact h
theorem RDs.cong (hK : Γ.K = Δ.K) (hv : Γ.cv = Δ.cv) : ∀ {l : List D} {vs : List V}, RDs Γ μ H l vs → RDs Δ μ H l vs
  | [], _, h => h
  | d :: l, _, h => by
    obtain ⟨v, r, h1, h2, h3⟩ := h
    exact ⟨v, r, h1, RD.cong hK hv h2, RDs.cong hK hv h3⟩
end
theorem RKs.cong {κ : Type} (hK : Γ.K = Δ.K) (hv : Γ.cv = Δ.cv) : ∀ {l : List (κ × D)} {vs : List (κ × V)}, RKs Γ μ H l vs → RKs Δ μ H l vs
  | [], _, h => h
  | p :: l, _, h => by
    obtain ⟨v, r, h1, h2, h3⟩ := h
    exact ⟨v, r, h1, h2.cong hK hv, RKs.cong hK hv h3⟩
theorem REl.cong (hK : Γ.K = Δ.K) (hv : Γ.cv = Δ.cv) : ∀ {l : Slots} {s : L2.St}, REl Γ μ H l s → REl Δ μ H l s
  | [], _, h => h
  | o :: l, _, h => by
    obtain ⟨v, r, h1, h2, h3⟩ := h
    exact ⟨v, r, h1, fun d e => by obtain ⟨u, z1, z2⟩ := h2 d e; exact ⟨u, z1, z2.cong hK hv⟩, REl.cong hK hv h3⟩
theorem RO.cong (hK : Γ.K = Δ.K) (hv : Γ.cv = Δ.cv) (hc : Γ.ca = Δ.ca) {a : Addr} {o : Ob} (h : RO Γ μ H a o) : RO Δ μ H a o := by
  cases o with
  | lst l => obtain ⟨vs, h1, h2⟩ := h; exact ⟨vs, h1, h2.cong hK hv⟩
  | dK l => obtain ⟨vs, h1, h2⟩ := h; exact ⟨vs, h1, h2.cong hK hv⟩
  | dT l => obtain ⟨vs, h1, h2⟩ := h; exact ⟨vs, h1, h2.cong hK hv⟩
  | ins c fs => obtain ⟨dx, vs, h1, h2⟩ := h; exact ⟨dx, vs, hc ▸ h1, h2.cong hK hv⟩
theorem RX.cong (hK : Γ.K = Δ.K) (hv : Γ.cv = Δ.cv) (hc : Γ.ca = Δ.ca) {x : Ex} {c : Value} {d : Option Addr} (h : RX Γ μ H x c d) : RX Δ μ H x c d := by
  obtain ⟨h1, dd, vs, h2, h3, h4⟩ := h
  exact ⟨hc ▸ h1, dd, vs, h2, h3, h4.cong hK hv⟩
/-- the context of an except suite that holds x -/
def Cfg.with (Γ : Cfg) (q : Cur) : Cfg := { Γ with cur := some q }
theorem RS.with {st : Sto} {q : Cur} (h : RS Γ μ H st) (rx : RX Γ μ H q.x (.ref (Γ.ca q.x.c)) (some q.d)) : RS (Γ.with q) μ H st :=
  ⟨h.len, h.inj, fun n o e => by obtain ⟨a, h1, h2⟩ := h.ob n o e; exact ⟨a, h1, h2.cong (Γ := Γ) (Δ := Γ.with q) rfl rfl rfl⟩, fun p hp => by
    have hp : some q = some p := hp
    cases hp
    exact rx.cong (Γ := Γ) (Δ := Γ.with q) rfl rfl rfl⟩
theorem RS.wout {st : Sto} {q : Cur} (hc : Γ.cur = none) (h : RS (Γ.with q) μ H st) : RS Γ μ H st :=
  ⟨h.len, h.inj, fun n o e => by obtain ⟨a, h1, h2⟩ := h.ob n o e; exact ⟨a, h1, h2.cong (Γ := Γ.with q) (Δ := Γ) rfl rfl rfl⟩, fun p hp => by rw [hc] at hp; cases hp⟩
theorem REl.setN : ∀ {l : Slots} {s : L2.St} {i : Nat} {v : Option V}, REl Γ μ H l s → REl Γ μ H (l.set i none) (s.set i v)
  | [], _, _, _, h => by
    have h : _ = [] := h
    subst h
    rfl
  | o :: l, _, 0, v, h => by
    obtain ⟨w, r, rfl, h2, h3⟩ := h
    exact ⟨v, r, rfl, fun d e => (by cases e), h3⟩
  | o :: l, _, i + 1, v, h => by
    obtain ⟨w, r, rfl, h2, h3⟩ := h
    exact ⟨w, r.set i v, rfl, h2, REl.setN h3⟩
end
section
variable {X : Cx} {Γ : Cfg} {W : WX}
def Wno : WX := fun _ _ _ _ => False
def SR.off (i : Nat) : SR → SR
  | .nx e s => .nx (e.set i none) s
  | .rt d s => .rt d s
  | .bk e s => .bk (e.set i none) s
  | .ct e s => .ct (e.set i none) s
  | .exc _ _ _ => .bad
  | .bad => .bad
def sTryAs (sel : Nat → Option Bool) (i : Nat) (b : MS) (h : Ex → MS) : MS := fun e st => match b e st with
  | .exc x e' st' => (match sel x.c with
    | some true => if i < e'.length then (h x (e'.set i none) st').off i else .bad
    | some false => .exc x e' st'
    | none => .bad)
  | r => r
theorem s_try_as {x n : Str} {c : Value} {i : Nat} {body suite : List Stmt} {b₀ : Stmt} {np pos pos' : Pos} {sel : Nat → Option Bool} {b : MS} {h : Ex → MS} (hcu : Γ.cur = none) (hK : X.K = Γ.K) (hs : X.stack = X.env :: X.outer) (hf : X.env.frame = some X.env.locals) (hN : X.N.Nodup) (hi : X.N[i]? = some n)
    (hln : X.env.kindOf n = some .local) (hc : Names X x c) (tk : Takes X W) (hsel : ∀ k q, sel k = some q → PySem.W.exmOne Γ.K (.ref (Γ.ca k)) c = some q)
    (hb : ∀ (W : WX) (pn : List (Addr × Obj)) (xe : Value → Shared → Prop), Takes (X.tr pn xe) W → PassesOwn (model X.prog X.w) X.A X.env xe → PSs (X.tr pn xe) body (dS Γ W b))
    (hsu : ∀ (a : Addr) (oe : Obj) (ex : Ex) (d : Addr) (pn : List (Addr × Obj)), Zc (.ref (Γ.ca ex.c)) (some d) oe → (∃ vs, oe.data = .fields vs) → PSs (X.suite a ((a, oe) :: pn)) (b₀ :: suite) (dS (Γ.with ⟨i, a, d, ex⟩) Wno (h ex))) :
    PS X (.Try body [.ExceptHandler (some (.Name x np)) (some n) (b₀ :: suite) pos'] [] [] pos) (dS Γ W (sTryAs sel i b h)) := by
  have base := ps_try_as (X := X) (x := x) (n := n) (c := c) (i := i) (body := body) (suite := suite) (b₀ := b₀) (np := np) (pos := pos) (pos' := pos') (tb := fun W => dS Γ W b) (Wout := W)
    (ts := fun a cls d D σ H => ∃ ex d', d = some d' ∧ cls = .ref (Γ.ca ex.c) ∧ dS (Γ.with ⟨i, a, d', ex⟩) Wno (h ex) D σ H) hs hf hN hi hln hc tk hb (fun a oe cls d pn hz hv => ?_)
  · refine ⟨fun pins s σ H D I q => base.run pins s σ H D I ?_⟩
    obtain ⟨μ, e, st, r, re, k⟩ := q
    refine ⟨μ, e, st, r, re, ?_⟩
    unfold sTryAs at k
    cases hbr : b e st with
    | nx e' st' => rw [hbr] at k; exact k
    | rt d st' => rw [hbr] at k; exact k
    | bk e' st' => rw [hbr] at k; exact k
    | ct e' st' => rw [hbr] at k; exact k
    | bad => rw [hbr] at k; exact k
    | exc x e' st' =>
      rw [hbr] at k
      intro μ' H' σ' c' d e1 r1 re1 rx
      obtain ⟨rx1, dd, vs, rfl, rx3, rx4⟩ := id rx
      subst rx1
      have hK' : X.K = Γ.K := hK
      dsimp only at k
      split at k
      · rename_i hse
        split at k
        case isFalse => exact k.elim
        rename_i hlt
        refine ⟨true, by rw [hK']; exact hsel _ _ hse, fun _ a ha => ?_, fun z => Bool.noConfusion z⟩
        refine ⟨x, dd, rfl, rfl, μ', e'.set i none, st', r1.with (q := ⟨i, a, dd, x⟩) rx, ⟨(re1.l.cong (Γ := Γ) (Δ := Γ.with ⟨i, a, dd, x⟩) rfl rfl).setN, fun p hp => ?_⟩, ?_⟩
        · have hp : some (⟨i, a, dd, x⟩ : Cur) = some p := hp
          cases hp
          exact List.getElem?_set_self (by rw [re1.l.length]; exact hlt)
        · cases hh : h x (e'.set i none) st' with
          | nx e2 s2 =>
            rw [hh] at k
            intro μ2 H2 σ2 e3 r3 re3
            refine k μ2 H2 (σ2.set i none) (e1.trans e3) (r3.wout hcu) ⟨(re3.l.cong (Γ := Γ.with ⟨i, a, dd, x⟩) (Δ := Γ) rfl rfl).setN, fun p hp => by rw [hcu] at hp; cases hp⟩
          | bk e2 s2 =>
            rw [hh] at k
            intro μ2 H2 σ2 e3 r3 re3
            refine k μ2 H2 (σ2.set i none) (e1.trans e3) (r3.wout hcu) ⟨(re3.l.cong (Γ := Γ.with ⟨i, a, dd, x⟩) (Δ := Γ) rfl rfl).setN, fun p hp => by rw [hcu] at hp; cases hp⟩
          | ct e2 s2 =>
            rw [hh] at k
            intro μ2 H2 σ2 e3 r3 re3
            refine k μ2 H2 (σ2.set i none) (e1.trans e3) (r3.wout hcu) ⟨(re3.l.cong (Γ := Γ.with ⟨i, a, dd, x⟩) (Δ := Γ) rfl rfl).setN, fun p hp => by rw [hcu] at hp; cases hp⟩
          | rt d2 s2 =>
            rw [hh] at k
            intro μ2 H2 v2 e3 r3 rv3
            exact k μ2 H2 v2 (e1.trans e3) (r3.wout hcu) (rv3.cong (Γ := Γ.with ⟨i, a, dd, x⟩) (Δ := Γ) rfl rfl)
          | exc x2 e2 s2 => rw [hh] at k; exact k.elim
          | bad => rw [hh] at k; exact k.elim
      · rename_i hse
        refine ⟨false, by rw [hK']; exact hsel _ _ hse, fun z => Bool.noConfusion z, fun _ => k μ' H' σ' _ _ e1 r1 re1 rx⟩
      · exact k.elim
  · refine ⟨fun pins s σ H D I q => ?_⟩
    obtain ⟨ex, d', rfl, rfl, q⟩ := q
    exact (hsu a oe ex d' pn hz hv).run pins s σ H D I q
end
end Mp

set_option Elab.async false
set_option linter.all false
set_option maxRecDepth 100000
set_option maxHeartbeats 2000000
/-! Mp15: what a suite does with the exception it holds: a field, isinstance. -/
namespace Mp
open PySem PySem.Spec PyProof.Rows L2
section
variable {X : Cx} {Γ : Cfg} {W : WX} {i : Nat} {a d : Addr} {x : Ex} {oe : Obj} {pn : List (Addr × Obj)} {n : Str} {p pos p2 p3 : Pos}
structure XRd (K : PySem.W.Frag) (C : Addr) (f : Str) : Prop where
  ga : PySem.W.findIn K (.ref C) "__getattribute__" = some (some (.builtin "BaseException.__getattribute__"))
  gg : PySem.W.findIn K (.ref C) "__getattr__" = some none
  noN : PySem.W.findIn K (.ref C) f = some none
  exC : PySem.W.subIn K (.ref C) (.type "BaseException") = some true
  hdC : PySem.W.hasDictIn K C = true
/-- e.f, e the exception held -/
def mXf (rd : Nat → Bool) (f : Str) (x : Ex) : M := fun _ st => if rd x.c then (match x.fs.lookup f with
  | some d => .ok d st
  | none => .bad) else .bad
theorem RKs.lookup_xd {μ : List Addr} {H : Hp} {f : Str} {d : D} : ∀ {l : List (Str × D)} {vs : List (Str × V)}, RKs Γ μ H l vs → l.lookup f = some d → ∃ v, vs.lookup f = some v ∧ RD Γ μ H d v
  | [], _, _, e => by cases e
  | (k, y) :: l, _, h, e => by
    obtain ⟨v, r, rfl, h2, h3⟩ := h
    simp only [List.lookup] at e ⊢
    cases hk : (f == k) with
    | true =>
      rw [hk] at e
      dsimp only at e
      cases e
      exact ⟨v, rfl, h2⟩
    | false =>
      rw [hk] at e
      exact RKs.lookup_xd h3 e
theorem m_xf {rd : Nat → Bool} {f : Str} (hK : X.K = Γ.K) (hz : Zc (.ref (Γ.ca x.c)) (some d) oe) (hf : ∃ vs, oe.data = .fields vs) (hrd : ∀ c, rd c = true → XRd Γ.K (Γ.ca c) f) (hN : X.N[i]? = some n) (hv : Vis X.env.scope n) (hd : (n == ("__debug__" : Str)) = false) (hcd : (n == ("__classdict__" : Str)) = false)
    (hb : attributeBase (.Name n p) f X.env (eval (.Name n p) X.env) = eval (.Name n p) X.env := by rfl) :
    PE (X.suite a ((a, oe) :: pn)) (.Attribute (.Name n p) f pos) (dE (Γ.with ⟨i, a, d, x⟩) W (mXf rd f x)) := by
  refine ⟨fun pins s σ H Q I h => ?_⟩
  obtain ⟨μ, e, st, r, re, k⟩ := h
  have hv0 := re.cur ⟨i, a, d, x⟩ rfl
  unfold mXf at k
  split at k
  case isFalse => exact k.elim
  rename_i hok
  have T := hrd _ hok
  rw [← hK] at T
  obtain ⟨_, dd, vs, e2, e3, e4⟩ := r.cur ⟨i, a, d, x⟩ rfl
  cases e2
  cases hl : x.fs.lookup f with
  | none => rw [hl] at k; exact k.elim
  | some y =>
    rw [hl] at k
    obtain ⟨v, l, rv⟩ := e4.lookup_xd hl
    have hq : Q v H := k.ok r rv
    refine attr_of hb (thn ((pe_var (X := X.suite a ((a, oe) :: pn)) (i := i) hN hv hd hcd).run pins s σ H (fun z H1 => z = .ref a ∧ H1 = H) I ⟨.ref a, hv0, rfl, rfl⟩) fun u s1 hh => ?_)
    obtain ⟨z, H1, I1, rx, ez, rfl⟩ := hh
    subst ez
    obtain rfl : u = Value.ref a := rx
    obtain ⟨ha, _⟩ := I1.pin (a, oe) (List.mem_append_left _ List.mem_cons_self)
    obtain ⟨fvs, hd⟩ := hf
    have hx : ObjOk X.prog X.w H1 s1.heap d (.xd vs) := I1.hok d _ e3
    obtain ⟨mA, hns, hr⟩ := hx
    obtain ⟨od, ho, hlk⟩ := lookIn_ns hns
    obtain ⟨u, hu, ru⟩ := RelO.some_of (v := v) (o := mA f) (by rw [← l]; exact hr f)
    have J : PySem.W.InstAt s1.heap a oe (Γ.ca x.c) (some od) := ⟨ha, hz.1, by unfold PySem.W.notCls; rw [hd] <;> rfl, by rw [hz.2]; exact ho⟩
    exact HandSPX.exc_get I1.kIn J T.ga T.gg T.exC (PySem.W.findObj_own T.hdC T.noN rfl (by rw [hlk, hu])) (handed_of ru) ⟨v, H1, I1.tok _, ru, hq⟩
/-- isinstance(e, C) -/
def mXis (sel : Nat → Option Bool) (x : Ex) : M := fun _ st => match sel x.c with
  | some b => .ok (.bl b) st
  | none => .bad
def rXis (K : PySem.W.Frag) (C a : Addr) (dv : Option Addr) : List V → Hp → VK → Prop := fun xs H Q => (∀ dd, dv = some dd → ∃ vs, H dd = some (.xd vs)) ∧ ∃ (c : V) (cv : Value) (b : Bool), xs = [.ref a, c] ∧ (∀ u, RelV c u → u = cv) ∧ PySem.W.kitOne K (.ref C) cv = some b ∧ Q (.bl b) H
theorem call_xis {dv : Option Addr} {C : Addr} (T : ExcC X.K C) (hz : Zc (.ref C) dv oe) (hf : ∃ vs, oe.data = .fields vs) : CallR (X.suite a ((a, oe) :: pn)) (.builtin "isinstance") (rXis X.K C a dv) := by
  intro pins s σ H xs us Q I r h
  obtain ⟨hxd, c, cv, b, rfl, hcv, e, q⟩ := h
  cases r with
  | cons rx rr =>
    cases rr with
    | cons rt rr =>
      cases rr
      cases rx
      have ec := hcv _ rt
      subst ec
      obtain ⟨hget, _⟩ := I.pin (a, oe) (List.mem_append.mpr (.inl List.mem_cons_self))
      obtain ⟨vs, hv⟩ := hf
      have J : ∃ od, PySem.W.InstAt s.heap a oe C od := by
        cases hdv : dv with
        | none =>
          rw [hdv] at hz
          exact ⟨none, hget, hz.1, by unfold PySem.W.notCls; rw [hv] <;> rfl, by rw [hz.2]; trivial⟩
        | some dd =>
          obtain ⟨fs, e3⟩ := hxd dd hdv
          have hx : ObjOk X.prog X.w H s.heap dd (.xd fs) := I.hok dd _ e3
          obtain ⟨mA, hns, hr⟩ := hx
          obtain ⟨od, ho, hlk⟩ := lookIn_ns hns
          rw [hdv] at hz
          exact ⟨some od, hget, hz.1, by unfold PySem.W.notCls; rw [hv] <;> rfl, by rw [hz.2]; exact ho⟩
      obtain ⟨od, J⟩ := J
      have hcl : (PySem.W.clsIn X.K C).isSome = true := by
        obtain ⟨cd, hc, _⟩ := PySem.W.any_some T.hd
        rw [hc]
        rfl
      exact PySem.W.kia_one (PySem.W.kitx_exc hcl T.hg T.hk T.hs T.ha T.hn T.ht T.hm) I.kIn J e (fun z => nomatch z) fun tk => ⟨.bl b, H, I.kept (t' := tk) fun _ _ z => z, rfl, q⟩
theorem m_isE {sel : Nat → Option Bool} {cn : Str} {CE : Addr} (hK : X.K = Γ.K) (hz : Zc (.ref (Γ.ca x.c)) (some d) oe) (hf : ∃ vs, oe.data = .fields vs) (hsel : ∀ c b, sel c = some b → ExcC Γ.K (Γ.ca c) ∧ PySem.W.kitOne Γ.K (.ref (Γ.ca c)) (.ref CE) = some b)
    (hgi : Gl X "isinstance") (hmi : X.mg "isinstance" = none) (hgc : Gl X cn) (hmc : X.mg cn = some (.ref CE)) (hN : X.N[i]? = some n) (hv : Vis X.env.scope n) (hd : (n == ("__debug__" : Str)) = false) (hcd : (n == ("__classdict__" : Str)) = false) (hdc : (cn == ("__debug__" : Str)) = false)
    (he : starEach [.Name n p2, .Name cn p3] X.env = (false, eval (.Name n p2) X.env) :: starEach [.Name cn p3] X.env := by rfl) (he2 : starEach [.Name cn p3] X.env = (false, eval (.Name cn p3) X.env) :: starEach [] X.env := by rfl)
    (hpl : (backTo pos (starEach [.Name cn p3] X.env)).any (·.1) = false := by rfl) :
    PE (X.suite a ((a, oe) :: pn)) (.Call (.Name "isinstance" p) [.Name n p2, .Name cn p3] [] pos) (dE (Γ.with ⟨i, a, d, x⟩) W (mXis sel x)) := by
  refine ⟨fun pins s σ H Q I h => ?_⟩
  obtain ⟨μ, e, st, r, re, k⟩ := h
  have hv0 := re.cur ⟨i, a, d, x⟩ rfl
  unfold mXis at k
  split at k
  case h_2 => exact k.elim
  rename_i b hb
  obtain ⟨T, ek⟩ := hsel _ _ hb
  obtain ⟨_, dd, vs, e2, e3, e4⟩ := r.cur ⟨i, a, d, x⟩ rfl
  cases e2
  refine (pe_callB (X := X.suite a ((a, oe) :: pn)) (x := "isinstance") (id := "isinstance") (call_xis (X := X) (C := Γ.ca x.c) (dv := some d) (by rw [hK]; exact T) hz hf) hgi hmi (by decide +kernel)
    (pa_cons (pe_var (X := X.suite a ((a, oe) :: pn)) (i := i) hN hv hd hcd) (pa_cons (pe_glob (X := X.suite a ((a, oe) :: pn)) (v := .ref CE) hgc hmc rfl hdc) pa_nil he2) he) (by decide) (by decide) he hpl).run pins s σ H Q I ?_
  refine ⟨.ref a, hv0, fun dd hdd => ?_, .ref CE, .ref CE, b, rfl, fun u hu => hu, by rw [hK]; exact ek, k.ok r RD.bl⟩
  · cases hdd
    exact ⟨_, e3⟩
end
end Mp

set_option Elab.async false
set_option linter.all false
set_option maxRecDepth 100000
set_option maxHeartbeats 2000000
/-! Mp16: items written, += on lists, empty dicts. -/
namespace Mp
open PySem PySem.Spec PyProof.Rows L2
section
variable {X : Cx} {Γ : Cfg} {W : WX}
/-! ### name += .. -/
def extF (x y : D) (st : Sto) : Res D := match lstOf st x, lstOf st y with
  | some a, some b => if szOk (a.length + b.length) then (match x with
    | .loc n => .ok (.loc n) (st.set n (.lst (a ++ b)))
    | _ => .bad) else .bad
  | _, _ => .bad
theorem od_ext : OpD Γ rExt2 extF := by
  intro μ H st x y v u Q Wk r rx ry k
  unfold extF at k
  split at k
  · rename_i l m e1 e2
    split at k
    · rename_i h
      obtain ⟨n1, p, xs, rfl, hn, rfl, h1, h2⟩ := lstOf_rd r rx e1
      obtain ⟨n2, q, ys, _, _, rfl, h3, h4⟩ := lstOf_rd r ry e2
      refine ⟨p, q, xs, ys, rfl, rfl, h1, h3, by rw [h2.length, h4.length]; exact szOk_le h, ?_⟩
      exact k.put r hn (fun e => ⟨_, upd_same, (h2.mono e).append (h4.mono e)⟩) (fun e => rx.mono e)
    · exact k.elim
  · exact k.elim
def iaddF : D → D → Sto → Res D := orF (orF (intF (· + ·)) strAdd) extF
def rIAddA : R2 := fun x y H Q => (rI0 (fun i j => .int (i + j)) x y H Q ∨ (∃ i j, x = .str i ∧ y = .str j ∧ i.length + j.length ≤ sizeLine ∧ Q (.str (i ++ j)) H)) ∨ rExt2 x y H Q
theorem iop_addA : OpR X (inplaceOp .Add) rIAddA := (iop_add.or iop_add_str).or iop_ext
theorem od_iadd : OpD Γ rIAddA iaddF := (od_int.or od_strAdd).or od_ext

/-! ### o[i] = v -/
def rSetA : TSet := fun o i v H Q => rSetL o i v H Q ∨ rSetD o i v H Q
theorem set_all (hu : X.A.units + 1 < cLine) : PSet X rSetA := by
  intro pins s σ H o i v ov iv u Q I ro ri rv h
  rcases h with h | h
  · exact set_list pins s σ H o i v ov iv u Q I ro ri rv h
  · exact set_dict hu pins s σ H o i v ov iv u Q I ro ri rv h
def setF (o i v : D) (st : Sto) : Option Sto := match o with
  | .loc n => match st[n]? with
    | some (.lst l) => (match i with
      | .int k => (ixN l.length k).map fun j => st.set n (.lst (l.set j v))
      | _ => none)
    | some (.dK l) => (key1 i).bind fun k => if l.length < sizeLine then some (st.set n (.dK (putD l k v))) else none
    | some (.dT l) => (match i with
      | .tup ks => (keyL ks).bind fun k => if l.length < sizeLine then some (st.set n (.dT (putD l k v))) else none
      | _ => none)
    | _ => none
  | _ => none
theorem RDs.setAt {μ : List Addr} {H : Hp} {d : D} {v : V} : ∀ {l : List D} {vs : List V} {j : Nat}, RDs Γ μ H l vs → RD Γ μ H d v → RDs Γ μ H (l.set j d) (vs.set j v)
  | [], _, _, h, _ => by cases h.unnil; exact RDs.nil
  | e :: l, _, 0, h, q => by
    obtain ⟨w, r, rfl, h2, h3⟩ := h
    exact ⟨v, r, rfl, q, h3⟩
  | e :: l, _, j + 1, h, q => by
    obtain ⟨w, r, rfl, h2, h3⟩ := h
    exact ⟨w, r.set j v, rfl, h2, RDs.setAt h3 q⟩
theorem set_of {μ : List Addr} {H : Hp} {st st' : Sto} {o i v : D} {ov iv vv : V} {Q : Hp → Prop} (r : RS Γ μ H st) (ho : RD Γ μ H o ov) (hi : RD Γ μ H i iv) (hv : RD Γ μ H v vv) (e : setF o i v st = some st')
    (k : ∀ H', Ext μ H μ H' → RS Γ μ H' st' → Q H') : rSetA ov iv vv H Q := by
  unfold setF at e
  split at e
  · rename_i n
    obtain ⟨a, h1, rfl⟩ := ho.ofLoc
    obtain ⟨ob, h2, h3⟩ := r.mu_some h1
    rw [h2] at e
    have put : ∀ (o : HO) (ob' : Ob), (Ext μ H μ (upd H a o) → RO Γ μ (upd H a o) a ob') → st' = st.set n ob' → Q (upd H a o) := by
      intro o ob' hro he
      obtain ⟨u, h5, h6⟩ := h3.here
      have ex : Ext μ H μ (upd H a o) := Ext.put h5 h6 h1
      obtain ⟨r', _⟩ := r.put h1 (hro ex)
      rw [he] at k
      exact k _ ex r'
    split at e
    · rename_i l e1
      cases e1
      obtain ⟨vs, h4, h5⟩ := h3
      split at e
      · rename_i z
        obtain ⟨j, hj, he⟩ := Option.map_eq_some_iff.mp e
        refine .inl ⟨a, vs, z, j, rfl, hi.ofInt, h4, by rw [h5.length]; exact hj, ?_⟩
        exact put _ (.lst _) (fun ex => ⟨_, upd_same, (h5.mono ex).setAt (hv.mono ex)⟩) he.symm
      · cases e
    · rename_i l e1
      cases e1
      obtain ⟨vs, h4, h5⟩ := h3
      obtain ⟨key, hk, e⟩ := Option.bind_eq_some_iff.mp e
      split at e
      · rename_i hz
        refine .inr ⟨a, _, rfl, by rw [key1_v hi hk]; exact DPut.k h4 (by rw [h5.length]; exact hz), ?_⟩
        exact put _ (.dK _) (fun ex => ⟨_, upd_same, (h5.mono ex).put key (hv.mono ex)⟩) (Option.some.inj e).symm
      · cases e
    · rename_i l e1
      cases e1
      obtain ⟨vs, h4, h5⟩ := h3
      split at e
      · rename_i ks
        obtain ⟨b, us, rfl, h8, h9⟩ := hi.ofTup
        obtain ⟨key, hk, e⟩ := Option.bind_eq_some_iff.mp e
        split at e
        · rename_i hz
          rw [keyL_v h9 hk] at h8
          refine .inr ⟨a, _, rfl, DPut.t h4 h8 (by rw [h5.length]; exact hz), ?_⟩
          exact put _ (.dT _) (fun ex => ⟨_, upd_same, (h5.mono ex).put key (hv.mono ex)⟩) (Option.some.inj e).symm
        · cases e
      · cases e
    · cases e
  · cases e
def sSetIx (mo mi mv : M) : MS := fun e st => (mv e st).sr e fun v s0 => (mo e s0).sr e fun o s1 => (mi e s1).sr e fun i s2 => match setF o i v s2 with
  | some s3 => .nx e s3
  | none => .bad
theorem s_setIx {o i ex : Expr} {mo mi mv : M} {p pos : Pos} (hu : X.A.units + 1100 < cLine) (he : PE X ex (dE Γ W mv)) (ho : PE X o (dE Γ W mo)) (hi : PE X i (dE Γ W mi)) (hs : swapsWithSole [.Subscript o i p] ex pos.line X.env = pure false := by rfl) (hw : swappedStores [.Subscript o i p] ex X.env = pure none := by rfl)
    (h1 : (assignEach [.Subscript o i p] X.env).map (·.2) = [assign (.Subscript o i p) X.env] := by rfl)
    (ha : ∀ v, assign (.Subscript o i p) X.env v = (do
      let ov ← holding [v] (eval o X.env)
      let iv ← holding [v, ov] (eval i X.env)
      standAt p
      holding [v, ov, iv] (setItem ov iv v)
      release [v, ov, iv] []) := by intro _; rfl) : PS X (.Assign [.Subscript o i p] ex pos) (dS Γ W (sSetIx mo mi mv)) := by
  refine ps_imp (ps_asg he (pg_sub ho hi (set_all (by omega)) ha) hs hw h1) ?_
  rintro D σ H ⟨μ, e, sto, r, re, k⟩
  refine ⟨μ, e, sto, r, re, KS.bindR re k fun v s0 μ0 H0 vv _ e0 r0 q0 k0 => ?_⟩
  refine ⟨μ0, e, s0, r0, re.mono e0, KS.bindR (re.mono e0) k0 fun o s1 μ1 H1 ov _ e1 r1 q1 k1 => ?_⟩
  refine ⟨μ1, e, s1, r1, re.mono (e0.trans e1), KS.bindR (re.mono (e0.trans e1)) k1 fun i s2 μ2 H2 iv _ e2 r2 q2 k2 => ?_⟩
  cases hf : setF o i v s2 with
  | none => rw [hf] at k2; exact k2.elim
  | some s3 =>
    rw [hf] at k2
    exact set_of r2 (q1.mono e2) q2 (q0.mono (e1.trans e2)) hf fun H' ex r' => k2 μ2 H' σ ex r' ((re.mono (e0.trans (e1.trans e2))).mono ex)

/-! ### {} -/
def mDK : M := fun _ st => .ok (.loc st.length) (st ++ [.dK []])
def mDT : M := fun _ st => .ok (.loc st.length) (st ++ [.dT []])
theorem m_dK {pos : Pos} : PE X (.Dict [] [] pos) (dE Γ W mDK) := by
  refine pe_imp pe_dnewK ?_
  rintro σ H Q ⟨μ, e, st, r, re, k⟩
  intro p hp
  have ex := Ext.new (μ := μ) (o := .dK []) hp
  exact k _ _ _ ex (r.new hp ⟨[], upd_same, rfl⟩) (by unfold RD; exact ⟨p, by rw [← r.len]; simp, rfl⟩)
theorem m_dT {pos : Pos} : PE X (.Dict [] [] pos) (dE Γ W mDT) := by
  refine pe_imp pe_dnewT ?_
  rintro σ H Q ⟨μ, e, st, r, re, k⟩
  intro p hp
  have ex := Ext.new (μ := μ) (o := .dT []) hp
  exact k _ _ _ ex (r.new hp ⟨[], upd_same, rfl⟩) (by unfold RD; exact ⟨p, by rw [← r.len]; simp, rfl⟩)
end
end Mp

set_option Elab.async false
set_option linter.all false
set_option maxRecDepth 100000
set_option maxHeartbeats 2000000
/-! Mp17: from the promise of the law's def to the goal that the head leaves. -/
namespace Mp
open PySem PySem.Spec PyProof.Rows L2
section
variable {P : Program} {w : World} {K : PySem.W.Frag} {mg mb : Str → Option Value} {k : Nat} {fa a : Addr} {fd : FuncData} {x : Str} {sp : Sp} {s : Shared} {vs : List Value} {ns : List Int}
/-- how the law's call is to end -/
def Fine (s : Shared) (r : Result) (s' : Shared) : Prop := r = .ok (.ret (.bool true)) ∧ OldK s.heap s'.heap ∧ s'.os = s.os ∧ AllBare s'.gens
/-- what is tracked at the law's call: the script at most, that nobody writes -/
structure Alone (P : Program) (w : World) (K : PySem.W.Frag) (s : Shared) (a : Addr) (ns : List Int) (H : Hp) : Prop where
  frz : ∀ b u, H b = some u → b = a ∧ K.lookup a = none ∧ ∃ o xs, u = .frz o (.lst xs)
  seq : SqF K H a (ns.map V.int)
  hok : HOk P w H s.heap
theorem alone (KX : K.In s.heap) (ha : s.heap.get? a = some { cls := .type "list", data := .seq vs.toArray }) (hi : IntsAre vs ns) (hl : ns.length ≤ sizeLine) : ∃ H, Alone P w K s a ns H := by
  have rv : Vals (ns.map V.int) vs := vals_ints hi
  cases hk : K.lookup a with
  | some o =>
    obtain rfl : o = { cls := .type "list", data := .seq vs.toArray } := Option.some.inj ((KX a o hk).symm.trans ha)
    refine ⟨fun _ => none, fun b u z => (nomatch z), .inr ⟨_, vs.toArray, 0, hk, rfl, rfl, rfl, ?_, ?_⟩, fun b u z => (nomatch z)⟩
    · rw [List.size_toArray, hi.length]
      exact hl
    · exact rv
  | none =>
    refine ⟨fun b => if b = a then some (.frz { cls := .type "list", data := .seq vs.toArray } (.lst (ns.map V.int))) else none, fun b u z => ?_, .inl ⟨_, if_pos rfl⟩, fun b u z => ?_⟩
    · by_cases h : b = a
      · rw [if_pos h] at z
        exact ⟨h, hk, _, _, (Option.some.inj z).symm⟩
      · rw [if_neg h] at z
        cases z
    · by_cases h : b = a
      · rw [if_pos h] at z
        cases z
        rw [h]
        exact ⟨ha, by rw [List.length_map]; exact hl, vs, _, rv, ha⟩
      · rw [if_neg h] at z
        cases z
theorem go_call (KX : K.In s.heap) (hns : s.heap.Ns mainGlobals mg) (hb : s.heap.Ns builtinsNs mb) (hbb : ∀ x : Str, x ≠ "__name__" → mb x = bootBuiltins x) (hlim : s.heap.NoLimit) (hg : s.gens = #[])
    (ha : s.heap.get? a = some { cls := .type "list", data := .seq vs.toArray }) (hi : IntsAre vs ns) (hl : ns.length ≤ sizeLine) (hr : Room k callerA)
    (F : ∀ B : Heap, K.In B → B.Ns mainGlobals mg → FnG P w K mg B k fa fd [x] sp) (hbind : ∀ (s : Shared) (u : Value), BindsTo s fd ⟨[u], []⟩ [(x, u)])
    (hsp : ∀ H : Hp, SqF K H a (ns.map V.int) → sp [.ref a] H (fun v _ => v = .bl true) fun _ _ _ => False) :
    codeAny (model P w) callerA (.call (.ref fa) ⟨[.ref a], []⟩) (Fine s) s := by
  obtain ⟨H, hA⟩ := alone (P := P) (w := w) KX ha hi hl
  have free : ∀ {b : Addr} {o : Obj}, s.heap.get? b = some o → (b = a → False) → (hidT s.heap H).get? b = some o := fun {b o} e n => hidT_get e (by
    cases z : H b with
    | none => rfl
    | some u => exact (n (hA.frz b u z).1).elim)
  have dict : ∀ {b : Addr} {m : Str → Option Value}, s.heap.Ns b m → (hidT s.heap H).Ns b m := fun {b m} ⟨o, es, ep, e, d, r⟩ => ⟨o, es, ep, free e (fun z => by
    rw [z, ha] at e
    cases e
    cases d), d, r⟩
  have inB : K.In (hidT s.heap H) := fun b o e => by
    cases z : H b with
    | none => exact hidT_get (KX b o e) z
    | some u =>
      obtain ⟨rfl, n, _⟩ := hA.frz b u z
      rw [n] at e
      cases e
  have hM : Mod K mg (hidT s.heap H) := ⟨inB, dict hns, ⟨mb, dict hb, hbb⟩, by obtain ⟨mc, h1, h2⟩ := hlim; exact ⟨mc, dict h1, h2⟩⟩
  have hE : Env0 P w K mg (hidT s.heap H) callerA [] s H := ⟨rfl, hM, fun b o e => of_hidT e, Nat.le_of_eq (hidT_size _ _), trivial, fun b hb => (by cases hb), hA.hok, .of_eq hg⟩
  have run := (F _ inB (dict hns)).run callerA [] s H ⟨[.ref a], []⟩ [.ref a] [.ref a] _ _ hr rfl hE (hbind s (.ref a)) (.cons rfl .nil) (hsp H hA.seq)
  refine codeAny_mono run fun r s' h => ?_
  match r, h with
  | .error e, h =>
    obtain ⟨_, _, _, _, _, _, _, _, _, _, _, _, _, _, z⟩ := h
  | .ok .next, h => exact h.elim
  | .ok .brk, h => exact h.elim
  | .ok .cont, h => exact h.elim
  | .ok (.ret u), h =>
    obtain ⟨v, H', os, bare, un, hok', rv, q⟩ := h
    obtain rfl : v = .bl true := q
    obtain rfl : u = Value.bool true := rv
    refine ⟨rfl, OldK.of_keep fun b o e => ?_, os, bare⟩
    cases z : H b with
    | none => exact un.keep b o e z (fun h => by cases h) (fun h => by cases h)
    | some u =>
      obtain ⟨_, _, o', xs, rfl⟩ := hA.frz b u z
      obtain ⟨e1, _⟩ := hA.hok b _ z
      obtain ⟨e2, _⟩ := hok' b _ (un.frzs b o' _ z)
      rw [e1] at e
      cases e
      exact e2
end
/-- the goal behind the head -/
theorem go_walk {l : PySem.W.OpenLaw} {n k : Nat} {q : Program} {loose : List Str} {XP : (Str → Option Value) → Heap → Prop} {YP : World → Heap → Prop} {d : DefRec} {K : Params → PySem.W.Frag} {x : Str} {f : FS}
    (hn : l.most = some n) (hn2 : n ≤ sizeLine) (hdf : d.params.defaults = []) (hr : Room k callerA) (hY : ∀ (w : World) (h : Heap), YP w h → (K w.params).In h)
    (F : ∀ (w : World) (mg : Str → Option Value) (fa : Addr) (h : Heap), (K w.params).In h → h.Ns mainGlobals mg → mg d.name = some (.ref fa) →
      ∃ (fd : FuncData) (Γ : Cfg), Γ.K = K w.params ∧ Γ.cur = none ∧ (∀ (s : Shared) (u : Value), BindsTo s fd ⟨[u], []⟩ [(x, u)]) ∧ ∀ B : Heap, (K w.params).In B → B.Ns mainGlobals mg → FnG l.prog w (K w.params) mg B k fa fd [x] (spOf Γ f))
    (law : ∀ ns : List Int, ns.length ≤ n → (∀ z ∈ ns, Builtin.Int.intBits z ≤ 1048576) → ∃ st', f [.fz (ns.map D.int)] [] = .ok (.bl true) st') :
    PySem.W.WalkO q loose XP YP l.row.toRowW d [] (fun f vs => PySem.call f vs) := by
  refine Att.attach_callB hn hdf fun w s₀ s₁ mg mb fa o pm cd doc a vs ns G Y ho hd hcd hmg hobj hints hlen hbits hg => ?_
  have KX := hY w _ Y
  obtain ⟨fd, Γ, hK, hc, hb, hF⟩ := F w mg fa _ KX G.T.g hmg
  refine go_call KX G.T.g G.T.b G.T.builtins G.T.nolimit hg hobj hints (Nat.le_trans hlen hn2) hr hF hb fun H hS => ?_
  obtain ⟨st', e⟩ := law ns hlen hbits
  have intsR : ∀ l : List Int, RDs Γ [] H (l.map D.int) (l.map V.int) := fun l => by
    induction l with
    | nil => exact RDs.nil
    | cons i l ih => exact RDs.cons RD.int ih
  refine ⟨[], [.fz (ns.map D.int)], [], ⟨rfl, fun i j a h => by simp at h, fun n o h => by simp at h, fun q hq => by rw [hc] at hq; cases hq⟩, RDs.cons ?_ RDs.nil, ?_⟩
  · unfold RD
    exact ⟨a, _, rfl, by rw [hK]; exact hS, intsR ns⟩
  · rw [e]
    intro μ' H' v _ _ rv
    exact rv.ofBl
end Mp

set_option Elab.async false
set_option linter.all false
set_option maxRecDepth 100000
set_option maxHeartbeats 2000000
/-! Mp18: small words for derivations. -/
namespace Mp
open PySem PySem.Spec PyProof.Rows L2
/-- a constant of the module is the datum d -/
def GlobIs (K : PySem.W.Frag) (mg : Str → Option Value) (x : Str) (d : D) : Prop := ∃ u v, mg x = some u ∧ RelV v u ∧ ∀ (Γ : Cfg) μ H, Γ.K = K → RD Γ μ H d v
section
variable {X : Cx} {Γ : Cfg} {W : WX} {pos : Pos}
theorem m_gl {d : D} {x : Str} (hg : Gl X x) (h : GlobIs Γ.K X.mg x d) (hd : (x == ("__debug__" : Str)) = false := by decide) : PE X (.Name x pos) (dE Γ W (mLit d)) := by
  obtain ⟨u, v, hm, r, hr⟩ := h
  exact m_lit (pe_glob hg hm r hd) fun μ H => hr Γ μ H rfl
theorem takes_W0 : Takes X W0 := fun u s' ⟨_, _, _, _, _, _, _, _, _, _, _, _, _, _, _, _, w⟩ => w.elim
end
theorem hu_room {k : Nat} {A : Around} (hk : 60 ≤ k) (hr : Room k A) : A.units + 1100 < cLine := by
  have := hr.un
  omega
theorem fnG_bad {P : Program} {w : World} {K : PySem.W.Frag} {mg : Str → Option Value} {base : Heap} {Γ : Cfg} {k : Nat} {f : Addr} {fd : FuncData} {ps : List Str} : FnG P w K mg base k f fd ps (spOf Γ fun _ _ => .bad) :=
  ⟨fun vs H Q E ⟨μ, ds, st, _, _, h⟩ => h.elim, fun A outer s H args us vs Q E _ _ _ _ _ ⟨μ, ds, st, _, _, h⟩ => h.elim⟩
/-- a global int -/
theorem glob_int {K : PySem.W.Frag} {mg : Str → Option Value} {x : Str} {i : Int} {t : Tok} (h : mg x = some (.int i t)) : GlobIs K mg x (.int i) := ⟨_, .int i, h, ⟨t, rfl⟩, fun _ _ _ _ => RD.int⟩
theorem glob_str {K : PySem.W.Frag} {mg : Str → Option Value} {x z : Str} {t : Tok} (h : mg x = some (.str z t)) (hz : strOk z = true) : GlobIs K mg x (.str z) := ⟨_, .str z, h, ⟨t, rfl⟩, fun _ _ _ _ => RD.str hz⟩
def immD : Value → Option D
  | .int i _ => some (.int i)
  | .str z _ => if strOk z then some (.str z) else none
  | .bool b => some (.bl b)
  | .none => some .non
  | _ => none
theorem immD_ok {u : Value} {d : D} (h : immD u = some d) : ∃ v, RelV v u ∧ ∀ (Γ : Cfg) μ H, RD Γ μ H d v := by
  cases u with
  | int i t => cases h; exact ⟨.int i, ⟨t, rfl⟩, fun _ _ _ => RD.int⟩
  | str z t =>
    have h : (if strOk z then some (D.str z) else none) = some d := h
    split at h
    · rename_i hz
      cases h
      exact ⟨.str z, ⟨t, rfl⟩, fun _ _ _ => RD.str hz⟩
    · cases h
  | bool b => cases h; exact ⟨.bl b, rfl, fun _ _ _ => RD.bl⟩
  | none => cases h; exact ⟨.non, rfl, fun _ _ _ => RD.non⟩
  | _ => cases h
def immDs : List Value → Option (List D)
  | [] => some []
  | u :: r => match immD u, immDs r with
    | some d, some l => some (d :: l)
    | _, _ => none
theorem immDs_ok : ∀ {us : List Value} {l : List D}, immDs us = some l → ∃ vs, Vals vs us ∧ ∀ (Γ : Cfg) μ H, RDs Γ μ H l vs
  | [], _, h => by cases h; exact ⟨[], .nil, fun _ _ _ => RDs.nil⟩
  | u :: r, _, h => by
    unfold immDs at h
    split at h
    · rename_i d l e1 e2
      cases h
      obtain ⟨v, h1, h2⟩ := immD_ok e1
      obtain ⟨vs, h3, h4⟩ := immDs_ok e2
      exact ⟨v :: vs, .cons h1 h3, fun Γ μ H => RDs.cons (h2 Γ μ H) (h4 Γ μ H)⟩
    · cases h
/-- a written tuple of immediate values -/
theorem glob_tup {K : PySem.W.Frag} {mg : Str → Option Value} {x : Str} {a : Addr} {dd : Option Addr} {its : Array Value} {n : Nat} {sl : Array (Option Value)} {l : List D} (h : mg x = some (.ref a)) (hk : K.lookup a = some ⟨.type "tuple", dd, .seq its n, sl⟩)
    (hl : immDs its.toList = some l) (hz : its.size ≤ 1000) : GlobIs K mg x (.wt l) := by
  obtain ⟨vs, h1, h2⟩ := immDs_ok hl
  refine ⟨_, .ref a, h, rfl, fun Γ μ H e => ?_⟩
  unfold RD
  exact ⟨a, vs, rfl, .inr ⟨_, its, n, by rw [e]; exact hk, rfl, rfl, by rw [sizeLine_eq]; omega, h1⟩, h2 Γ μ H⟩
end Mp

set_option Elab.async false
set_option linter.all false
set_option maxRecDepth 100000
set_option maxHeartbeats 2000000
/-! Mp19: what the top has written, made into the facts that derivations ask. -/
namespace Mp
open PySem PySem.Spec PyProof.Rows L2
section
variable {P : Program} {K : PySem.W.Frag} {h : Heap} {mg : Str → Option Value}
theorem xtxt_mk {C D fI N : Addr} {fn nm q : Str} {bs bm sub : List Value} {sn : List Str} {ab : Bool} {col : Option Bool} {dd : Option Addr} {k0 k1 k2 k3 k5 : Option Value} {B nI iI : String}
    (lC : K.lookup C = some (excClassObj nm q C N bs bm true sn sub ab col dd k0 k1 k2 k3 k5 nI)) (XT : XTail bm B nI iI) (al : PySem.W.ks_superIn K C D "__init__" = some (some (.builtin iI))) (sB : PySem.W.subIn K (.ref C) (.type B) = some true)
    (sa : PySem.W.findIn K (.ref C) "__setattr__" = some (some (.builtin "object.__setattr__"))) (R : XRd K C fn) (iC : PySem.W.findIn K (.ref C) "__init__" = some (some (.ref fI))) (tC : PySem.W.typeIn K (.ref fI) = some (.type "function")) (kC : PySem.W.keepIn K (.ref C) = true)
    (tyC : PySem.W.typeIn K (.ref C) = some (.type "type")) (oany : PySem.W.nsIn K cStatics "thirdparty.any" = some none) (top : (P.main.scope.names.lookup ("super" : Str)).isSome = false) (mgS : mg "super" = none) (sub' : PySem.W.mroIn K C (.ref D) = some true)
    (hdD : PySem.W.hasDictIn K D = true) (four : fn = "reason" ∨ fn = "term" ∨ fn = "at" ∨ fn = "line")
    {oc doc pm ct ccl cl : Value} {od an cdd cld : Option Addr} {cda cc : Addr} {osl ccs csl : Array (Option Value)} {qual file : Str} {p1 p2 q1 q2 q3 q4 q5 q6 q7 q8 q9 q10 : Pos} {vs : Array Value} {tf : Tok}
    (lI : K.lookup fI = some ⟨oc, od, .func (PySem.W.ksFn "__init__" qual (xA fn p1 p2) (xBody fn q1 q2 q3 q4 q5 q6 q7 q8 q9 q10) (xScope fn) .none .none doc pm an (.ref cda) ct cc), osl⟩) (cI : PySem.W.codeIn K (.ref cda) qual = true)
    (lA : K.lookup cda = some ⟨ccl, cdd, .fields vs, ccs⟩) (hv : vs[2]? = some (.str file tf)) (hl : (q3.endLine == q5.line) = true) (hf : ((P.main.file : Str) == file) = true) (lB : K.lookup cc = some ⟨cl, cld, .cell (some (.ref D)), csl⟩) : XTxt P K mg C D fI fn where
  cls := by
    refine ⟨nm, q, N, bs, bm, sn, sub, ab, col, dd, k0, k1, k2, k3, k5, B, nI, iI, lC, XT, ?_, sB⟩
    unfold PySem.W.ks_superIn PySem.W.clsIn at al
    rw [lC] at al
    exact al
  sa := sa
  ga := R.ga
  gg := R.gg
  noN := R.noN
  iC := iC
  tC := tC
  kC := kC
  exC := R.exC
  tyC := tyC
  hdC := R.hdC
  oany := oany
  top := top
  mgS := mgS
  sub := sub'
  clD := by
    obtain ⟨cd, hc, _⟩ := PySem.W.any_some hdD
    exact ⟨cd, hc⟩
  four := four
  fn := ⟨oc, od, doc, pm, an, cda, ct, osl, qual, cc, p1, p2, q1, q2, q3, q4, q5, q6, q7, q8, q9, q10, vs, file, tf, ccl, cl, cdd, cld, ccs, csl, lI, cI, lA, hv, hl, hf, lB⟩
/-- isinstance of an own class -/
theorem kit_ref {C : Addr} {t : Value} {b : Bool} (hne : (t == Value.ref C) = false) (hdct : PySem.W.hasDictIn K C = true) (ht : PySem.W.typeIn K (.ref C) = some (.type "type")) (h4 : PySem.W.subIn K t (.ref C) = some b) : PySem.W.kitOne K t (.ref C) = some b := by
  obtain ⟨cd, hc, _⟩ := PySem.W.any_some hdct
  have e2 : ((PySem.W.clsIn K C).isSome && PySem.W.typeIn K (.ref C) == some (.type "type")) = true := by rw [hc, ht] <;> rfl
  show (if (t == Value.ref C) = true then some true else if ((PySem.W.clsIn K C).isSome && PySem.W.typeIn K (.ref C) == some (.type "type")) = true then PySem.W.subIn K t (.ref C) else none) = some b
  rw [hne, if_neg Bool.false_ne_true, if_pos e2]
  exact h4
theorem kit_same {C : Addr} : PySem.W.kitOne K (.ref C) (.ref C) = some true := by
  show (if (Value.ref C == Value.ref C) = true then some true else _) = some true
  rw [if_pos (by simp)]
end
end Mp

set_option Elab.async false
set_option linter.all false
set_option maxRecDepth 100000
set_option maxHeartbeats 2000000
/-! Mp21: try with several clauses, each with or without a name. -/
namespace Mp
open PySem PySem.Spec PyProof.Rows L2
/-- a clause: which classes it takes, its name's slot, what its suite does -/
abbrev Cl := (Nat → Option Bool) × Option Nat × (Ex → MS)
def pickH : List Cl → Ex → Slots → Sto → SR
  | [], x, e, s => .exc x e s
  | (sel, o, h) :: r, x, e, s => match sel x.c with
    | some true => (match o with
      | some i => if i < e.length then (h x (e.set i none) s).off i else .bad
      | none => match h x e s with
        | .exc _ _ _ => .bad
        | q => q)
    | some false => pickH r x e s
    | none => .bad
def sTryH (l : List Cl) (b : MS) : MS := fun e st => match b e st with
  | .exc x e' st' => pickH l x e' st'
  | r => r
inductive HX (X : Cx) (Γ : Cfg) : List ExceptHandler → List Cl → Prop
  | nil : HX X Γ [] []
  | as {x n : Str} {c : Value} {i : Nat} {sel : Nat → Option Bool} {h : Ex → MS} {b₀ : Stmt} {suite : List Stmt} {np p : Pos} {hds : List ExceptHandler} {l : List Cl} (hc : Names X x c) (hi : X.N[i]? = some n) (hln : X.env.kindOf n = some .local)
      (hsel : ∀ k q, sel k = some q → PySem.W.exmOne Γ.K (.ref (Γ.ca k)) c = some q)
      (hsu : ∀ (a : Addr) (oe : Obj) (ex : Ex) (d : Addr) (pn : List (Addr × Obj)), Zc (.ref (Γ.ca ex.c)) (some d) oe → (∃ vs, oe.data = .fields vs) → PSs (X.suite a ((a, oe) :: pn)) (b₀ :: suite) (dS (Γ.with ⟨i, a, d, ex⟩) Wno (h ex)))
      (r : HX X Γ hds l) : HX X Γ (.ExceptHandler (some (.Name x np)) (some n) (b₀ :: suite) p :: hds) ((sel, some i, h) :: l)
  | no {x : Str} {c : Value} {sel : Nat → Option Bool} {h : Ex → MS} {b₀ : Stmt} {suite : List Stmt} {np p : Pos} {hds : List ExceptHandler} {l : List Cl} (hc : Names X x c)
      (hsel : ∀ k q, sel k = some q → PySem.W.exmOne Γ.K (.ref (Γ.ca k)) c = some q)
      (hsu : ∀ (a : Addr) (oe : Obj) (ex : Ex) (pn : List (Addr × Obj)), PSs (X.suite a ((a, oe) :: pn)) (b₀ :: suite) (dS Γ Wno (h ex)))
      (r : HX X Γ hds l) : HX X Γ (.ExceptHandler (some (.Name x np)) none (b₀ :: suite) p :: hds) ((sel, none, h) :: l)
section
variable {X : Cx} {Γ : Cfg} {W : WX}
/-- an exception that flies over the body, at the clauses -/
structure Flies (X : Cx) (W : WX) (D : Ends) (pins : List (Addr × Obj)) (a : Addr) (B : Heap) (sI : Shared) (σ : L2.St) (H : Hp) (cls : Value) (d : Option Addr) (s3 : Shared) : Prop where
  J : Inv X pins σ H sI
  nb : ∀ b o, sI.heap.get? b = some o → b ∉ frs X.stack → B.get? b = some o
  up : sI.heap.UpToSlots s3.heap
  fl : HandSPX.FlyingZ B (X.env :: X.outer) a (Zc cls d) s3.heap
  na : H a = none
  os : s3.os = sI.os
  ag : AllBare s3.gens
theorem Flies.out {D : Ends} {pins : List (Addr × Obj)} {a : Addr} {B : Heap} {sI s3 : Shared} {σ : L2.St} {H : Hp} {cls : Value} {d : Option Addr} (F : Flies X W D pins a B sI σ H cls d s3) (hs : X.stack = X.env :: X.outer) (hf : X.env.frame = some X.env.locals) (tk : Takes X W) (w : W cls d σ H) :
    wpAny (model X.prog X.w) X.A (handleBy (.ref a) X.env []) (SP X pins D) X.xe s3 := by
  refine wpAny_handleBy_nil ?_
  obtain ⟨k1, k2, k3, oe, vs, T, oT, ts', he, hz, hd, h1, hr⟩ := id F.fl
  have nT : ¬ ((Value.ref T == Value.none) = true) := by simp
  have last : wpAny (model X.prog X.w) X.A (setFlight (.ref a) X.env.frame) (fun _ s4 => wpAny (model X.prog X.w) X.A (throw (.ref a) : Sem Flow) (SP X pins D) X.xe s4) X.xe s3 := by
    rw [hf]
    refine HandSPX.setFlight_upZ F.fl fun h4 held4 up4 => wpAny_throw (tk _ _ ?_)
    have hh : HandSPX.HeldZ B X.stack a (Zc cls d) X.env.locals h4 := by rw [hs]; exact held4
    exact ⟨a, B, sI, pins, σ, H, cls, d, rfl, F.J, F.nb, F.up.trans up4, .inr (.inr hh), F.na, F.os, F.ag, w⟩
  unfold PySem.passOn
  refine wpAny_bind (wpAny_field he hd h1 ?_)
  rw [if_neg nT]
  first
    | exact wpAny_bind (wpAny_pure (wpAny_bind last))
    | exact wpAny_bind last
theorem s_tryH {body : List Stmt} {h0 : ExceptHandler} {hds : List ExceptHandler} {l : List Cl} {b : MS} {pos : Pos} (hcu : Γ.cur = none) (hK : X.K = Γ.K) (hs : X.stack = X.env :: X.outer) (hf : X.env.frame = some X.env.locals) (hN : X.N.Nodup) (tk : Takes X W)
    (hb : ∀ (W : WX) (pn : List (Addr × Obj)) (xe : Value → Shared → Prop), Takes (X.tr pn xe) W → PassesOwn (model X.prog X.w) X.A X.env xe → PSs (X.tr pn xe) body (dS Γ W b)) (hh : HX X Γ (h0 :: hds) l) :
    PS X (.Try body (h0 :: hds) [] [] pos) (dS Γ W (sTryH l b)) := by
  refine ⟨fun pins s σ H D I ready => ?_⟩
  have ok := I.ok
  have hfr : X.A.frames = some (X.env :: X.outer) := by rw [ok.frames, hs]
  let Wb : WX := fun cls d σ' H' => ∃ μ x e' st', RS Γ μ H' st' ∧ RE Γ μ H' e' σ' ∧ RX Γ μ H' x cls d ∧ KS Γ μ H' W (pickH l x e' st') D
  have first : dS Γ Wb b D σ H := by
    obtain ⟨μ, e, st, r, re, k⟩ := ready
    refine ⟨μ, e, st, r, re, ?_⟩
    unfold sTryH at k
    cases hbr : b e st with
    | exc x e' st' =>
      rw [hbr] at k
      intro μ' H' σ' c' d' ex1 r1 re1 rx
      exact ⟨μ', x, e', st', r1, re1, rx, KS.mono ex1 k⟩
    | nx e' st' => rw [hbr] at k; exact k
    | rt d st' => rw [hbr] at k; exact k
    | bk e' st' => rw [hbr] at k; exact k
    | ct e' st' => rw [hbr] at k; exact k
    | bad => rw [hbr] at k; exact k
  refine wpAny_Try_except ?_
  have run := (hb Wb (X.pn ++ pins) (fun e s₁ => wpAny (model X.prog X.w) X.A (noteFrame e X.env) (fun _ s₂ => wpAny (model X.prog X.w) X.A (setFlight e none) (fun _ s₃ =>
    wpAny (model X.prog X.w) X.A (handleBy e X.env (h0 :: hds)) (SP X pins D) X.xe s₃) X.xe s₂) X.xe s₁) (fun u s' xx => ?_) PassesOwn.looking).run [] s σ H D (I.toTry _) first
  · refine wpAny_mono run (fun fl s1 done => ?_) (fun e s1 he => he)
    match fl, done with
    | .next, ⟨σ', H', J', q⟩ => exact wpAny_execs_nil ⟨σ', H', J'.ofTry ok, q⟩
    | .brk, ⟨σ', H', J', q⟩ => exact ⟨σ', H', J'.ofTry ok, q⟩
    | .cont, ⟨σ', H', J', q⟩ => exact ⟨σ', H', J'.ofTry ok, q⟩
    | .ret u, ⟨v, σ', H', J', r, q⟩ => exact ⟨v, σ', H', J'.ofTry ok, r, q⟩
  · -- caught
    obtain ⟨a, B, sI, pins', σ', H', cls, d, rfl, J', nb, up, sky, na, os, ag, μ, x, e', st', r1, re1, rx, k1⟩ := xx
    have J : Inv X pins σ' H' sI := J'.ofTry ok
    have skyX : Sky B (X.env :: X.outer) a (Zc cls d) X.env.locals s'.heap := by rw [← hs]; exact sky
    show wpAny (model X.prog X.w) X.A (noteFrame (.ref a) X.env) _ _ _
    refine Sky.land Zc.steady hfr hf skyX fun h3 fl3 up3 => ?_
    have F3 : Flies X W D pins a B sI σ' H' cls d { s' with heap := h3 } := ⟨J, nb, up.trans up3, fl3, na, os, ag⟩
    have J3 : Inv X pins σ' H' { s' with heap := h3 } := J.landed nb fl3.1 (up.trans up3) os ag
    obtain ⟨oe3, vs3, he3, hz3, hd3⟩ := fl3.there
    have far : a ∉ frs (X.env :: X.outer) := fun hm => by
      obtain ⟨_, o', q1, q2⟩ := fl3.2.2.1.mem hm
      rw [he3] at q1
      cases q1
      exact q2 _ hd3
    have nL : a ≠ X.env.locals := fun z => far (List.mem_filterMap.mpr ⟨X.env, List.mem_cons_self, by rw [hf, z]⟩)
    have nF : a ∉ X.fs := fun hm => by
      obtain ⟨e2, h2, q⟩ := List.mem_filterMap.mp hm
      exact far (List.mem_filterMap.mpr ⟨e2, List.mem_cons_of_mem _ h2, q⟩)
    obtain ⟨rx1, dd, fvs, rfl, rx3, rx4⟩ := id rx
    subst rx1
    have S3 := J3.suite he3 hd3 na nL nF
    have all : ∀ {hs' : List ExceptHandler} {l' : List Cl}, HX X Γ hs' l' → KS Γ μ H' W (pickH l' x e' st') D → wpAny (model X.prog X.w) X.A (handleBy (.ref a) X.env hs') (SP X pins D) X.xe { s' with heap := h3 } := by
      intro hs' l' hx
      have LT : PySem.W.Looks (model X.prog X.w) h3 (typeOf (.ref a)) (.ref (Γ.ca x.c)) := fun A Q E s k q => wpAny_typeOf_ref (k _ _ he3) (by rw [hz3.1]; exact q)
      have look : ∀ {y : Str} {np : Pos} {c : Value} (hc : Names X y c) {Q : Value → Shared → Prop} {E : Value → Shared → Prop}, Q c { s' with heap := h3 } → wpAny (model X.prog X.w) (X.A.mark (some (.ref a))) (eval (.Name y np) X.env) Q E { s' with heap := h3 } := by
        intro y np c hc Q E q
        rcases hc with ⟨hg, hdb, hm | ⟨hm, hv, hn⟩⟩
        · exact ld_glob (X := X.suite a ((a, oe3) :: (X.pn ++ pins))) S3 hg hm q hdb
        · exact ld_blt (X := X.suite a ((a, oe3) :: (X.pn ++ pins))) S3 hg hm hv q hn hdb
      induction hx with
      | nil =>
        intro k
        exact F3.out hs hf tk (k μ H' σ' _ _ (Ext.refl _ _) r1 re1 rx)
      | @as y n c i sel h b0 suite np p hds2 l2 hc hi hln hsel hsu r ih =>
        intro k
        unfold pickH at k
        cases hse : sel x.c with
        | none => rw [hse] at k; exact k.elim
        | some q =>
          rw [hse] at k
          refine wpAny_handleBy_cons (codeAny_handlers_test ?_) (by intro q; cases q)
          have LM := PySem.W.exm_one (M := model X.prog X.w) J3.kIn LT (by rw [hK]; exact hsel _ _ hse)
          refine look hc (LM.here ?_)
          cases q with
          | false =>
            show wpAny _ X.A (handleBy (.ref a) X.env hds2) _ _ _
            exact ih k
          | true =>
            dsimp only at k
            split at k
            case isFalse => exact k.elim
            rename_i hlt
            refine codeAny_handlers_suite_as ?_
            refine HandSPX.lands_againZ fl3 fun h4 fl4 up4 => ?_
            have J4 : Inv X pins σ' H' { s' with heap := h4 } := J.landed nb fl4.1 ((up.trans up3).trans up4) os ag
            obtain ⟨oe4, vs4, he4, hz4, hd4⟩ := fl4.there
            have S4 := J4.suite he4 hd4 na nL nF
            refine store_ok (X := X.suite a ((a, oe4) :: (X.pn ++ pins))) (v := .ref a) S4 hN hi (.inl hln) rfl (fun s5 S5 => ?_) (.inr hln)
            have go : dS (Γ.with ⟨i, a, dd, x⟩) Wno (h x) { nx := fun σ' H' => D.nx (σ'.set i none) H', rt := D.rt, bk := fun σ' H' => D.bk (σ'.set i none) H', ct := fun σ' H' => D.ct (σ'.set i none) H' } (σ'.set i (some (.ref a))) H' := by
              refine ⟨μ, e'.set i none, st', r1.with (q := ⟨i, a, dd, x⟩) rx, ⟨(re1.l.cong (Γ := Γ) (Δ := Γ.with ⟨i, a, dd, x⟩) rfl rfl).setN, fun p hp => ?_⟩, ?_⟩
              · have hp : some (⟨i, a, dd, x⟩ : Cur) = some p := hp
                cases hp
                exact List.getElem?_set_self (by rw [re1.l.length]; exact hlt)
              · cases hr : h x (e'.set i none) st' with
                | nx e2 s2 =>
                  rw [hr] at k
                  intro μ2 H2 σ2 e3 r3 re3
                  exact k μ2 H2 (σ2.set i none) e3 (r3.wout hcu) ⟨(re3.l.cong (Γ := Γ.with ⟨i, a, dd, x⟩) (Δ := Γ) rfl rfl).setN, fun p hp => by rw [hcu] at hp; cases hp⟩
                | bk e2 s2 =>
                  rw [hr] at k
                  intro μ2 H2 σ2 e3 r3 re3
                  exact k μ2 H2 (σ2.set i none) e3 (r3.wout hcu) ⟨(re3.l.cong (Γ := Γ.with ⟨i, a, dd, x⟩) (Δ := Γ) rfl rfl).setN, fun p hp => by rw [hcu] at hp; cases hp⟩
                | ct e2 s2 =>
                  rw [hr] at k
                  intro μ2 H2 σ2 e3 r3 re3
                  exact k μ2 H2 (σ2.set i none) e3 (r3.wout hcu) ⟨(re3.l.cong (Γ := Γ.with ⟨i, a, dd, x⟩) (Δ := Γ) rfl rfl).setN, fun p hp => by rw [hcu] at hp; cases hp⟩
                | rt d2 s2 =>
                  rw [hr] at k
                  intro μ2 H2 v2 e3 r3 rv3
                  exact k μ2 H2 v2 e3 (r3.wout hcu) (rv3.cong (Γ := Γ.with ⟨i, a, dd, x⟩) (Δ := Γ) rfl rfl)
                | exc x2 e2 s2 => rw [hr] at k; exact k.elim
                | bad => rw [hr] at k; exact k.elim
            refine wpAny_mono ((hsu a oe4 x dd (X.pn ++ pins) hz4 ⟨_, hd4⟩).run [] s5 _ H' _ S5 go) (fun fl s6 done => ?_) (fun _ _ z => z.elim)
            have leave : ∀ {σ6 : L2.St} {H6 : Hp} {Q : Shared → Prop}, Inv (X.suite a ((a, oe4) :: (X.pn ++ pins))) [] σ6 H6 s6 → (∀ s7, Inv X pins (σ6.set i none) H6 s7 → Q s7) →
                wpAny (model X.prog X.w) X.A (do bindName X.env n .none; unbindBehindTheSuite X.env n p) (fun _ s7 => Q s7) X.xe s6 := fun S6 hq => gone_ok (S6.unsuite ok) hN hi hln hq
            match fl, done with
            | .next, ⟨σ6, H6, S6, q6⟩ => exact leave S6 fun s7 J7 => ⟨_, _, J7, q6⟩
            | .brk, ⟨σ6, H6, S6, q6⟩ => exact leave S6 fun s7 J7 => ⟨_, _, J7, q6⟩
            | .cont, ⟨σ6, H6, S6, q6⟩ => exact leave S6 fun s7 J7 => ⟨_, _, J7, q6⟩
            | .ret u, ⟨v6, σ6, H6, S6, r6, q6⟩ => exact leave S6 fun s7 J7 => ⟨_, _, _, J7, r6, q6⟩
      | @no y c sel h b0 suite np p hds2 l2 hc hsel hsu r ih =>
        intro k
        unfold pickH at k
        cases hse : sel x.c with
        | none => rw [hse] at k; exact k.elim
        | some q =>
          rw [hse] at k
          refine wpAny_handleBy_cons (codeAny_handlers_test ?_) (by intro q; cases q)
          have LM := PySem.W.exm_one (M := model X.prog X.w) J3.kIn LT (by rw [hK]; exact hsel _ _ hse)
          refine look hc (LM.here ?_)
          cases q with
          | false =>
            show wpAny _ X.A (handleBy (.ref a) X.env hds2) _ _ _
            exact ih k
          | true =>
            dsimp only at k
            refine codeAny_handlers_suite ?_
            refine HandSPX.lands_againZ fl3 fun h4 fl4 up4 => ?_
            have J4 : Inv X pins σ' H' { s' with heap := h4 } := J.landed nb fl4.1 ((up.trans up3).trans up4) os ag
            obtain ⟨oe4, vs4, he4, hz4, hd4⟩ := fl4.there
            have S4 := J4.suite he4 hd4 na nL nF
            have go : dS Γ Wno (h x) D σ' H' := by
              refine ⟨μ, e', st', r1, re1, ?_⟩
              cases hr : h x e' st' with
              | exc x2 e2 s2 => rw [hr] at k; exact k.elim
              | nx e2 s2 => rw [hr] at k; exact k
              | bk e2 s2 => rw [hr] at k; exact k
              | ct e2 s2 => rw [hr] at k; exact k
              | rt e2 s2 => rw [hr] at k; exact k
              | bad => rw [hr] at k; exact k
            refine wpAny_mono ((hsu a oe4 x (X.pn ++ pins)).run [] _ _ H' _ S4 go) (fun fl s6 done => ?_) (fun _ _ z => z.elim)
            match fl, done with
            | .next, ⟨σ6, H6, S6, q6⟩ => exact ⟨_, _, S6.unsuite ok, q6⟩
            | .brk, ⟨σ6, H6, S6, q6⟩ => exact ⟨_, _, S6.unsuite ok, q6⟩
            | .cont, ⟨σ6, H6, S6, q6⟩ => exact ⟨_, _, S6.unsuite ok, q6⟩
            | .ret u, ⟨v6, σ6, H6, S6, r6, q6⟩ => exact ⟨_, _, _, S6.unsuite ok, r6, q6⟩
    exact all hh k1
end
end Mp

set_option Elab.async false
set_option linter.all false
set_option maxRecDepth 100000
set_option maxHeartbeats 2000000
/-! Mp22: an own exception with two fields, number and reason. -/
namespace Mp
open PySem PySem.W PySem.Calls PyProof.Rows
def xA2 (p1 p2 p3 : Pos) : Arguments := { posonlyargs := [], args := [{ arg := "self", annotation := none, pos := p1 }, { arg := "number", annotation := none, pos := p2 }, { arg := "reason", annotation := none, pos := p3 }], vararg := none, kwonlyargs := [], kw_defaults := [], kwarg := none, defaults := [] }
def xBody2 (q1 q2 q3 q4 q4' q5 q6 q7 q8 q9 q10 q11 q12 q13 q14 : Pos) : List Stmt :=
  [.Expr (.Call (.Attribute (.Call (.Name "super" q1) [] [] q2) "__init__" q3) [.Name "number" q4, .Name "reason" q4'] [] q5) q6, .Assign [.Attribute (.Name "self" q7) "number" q8] (.Name "number" q9) q10, .Assign [.Attribute (.Name "self" q11) "reason" q12] (.Name "reason" q13) q14]
def xScope2 : Scope := { kind := .function, names := [(PySem.Str.ofString "self", .local), (PySem.Str.ofString "number", .local), (PySem.Str.ofString "reason", .local), (PySem.Str.ofString "__class__", .free), (PySem.Str.ofString "super", .globalImplicit)], isGenerator := false, isCoroutine := false, more := [] }
structure XTxt2 (P : Program) (K : Frag) (mg : Str → Option Value) (C D fI : Addr) : Prop where
  cls : ∃ nm q N bs bm sn sub ab col dd k0 k1 k2 k3 k5 B nI iI, K.lookup C = some (excClassObj nm q C N bs bm true sn sub ab col dd k0 k1 k2 k3 k5 nI) ∧ HandSPX.refsVE bm = true ∧ nI = "ValueError.__new__" ∧ iI = "ValueError.__init__" ∧ B = "ValueError" ∧
    alongIn K "__init__" (((Value.ref C :: bm).dropWhile (· != .ref D)).drop 1) = some (some (.builtin iI)) ∧ subIn K (.ref C) (.type B) = some true
  sa : findIn K (.ref C) "__setattr__" = some (some (.builtin "object.__setattr__"))
  ga : findIn K (.ref C) "__getattribute__" = some (some (.builtin "BaseException.__getattribute__"))
  gg : findIn K (.ref C) "__getattr__" = some none
  noN : findIn K (.ref C) "number" = some none
  noR : findIn K (.ref C) "reason" = some none
  iC : findIn K (.ref C) "__init__" = some (some (.ref fI))
  tC : typeIn K (.ref fI) = some (.type "function")
  kC : keepIn K (.ref C) = true
  exC : subIn K (.ref C) (.type "BaseException") = some true
  tyC : typeIn K (.ref C) = some (.type "type")
  hdC : hasDictIn K C = true
  oany : nsIn K cStatics "thirdparty.any" = some none
  top : (P.main.scope.names.lookup ("super" : Str)).isSome = false
  mgS : mg "super" = none
  sub : mroIn K C (.ref D) = some true
  clD : ∃ cdD, clsIn K D = some cdD
  fn : ∃ (oc : Value) (od : Option Addr) (doc pm : Value) (an : Option Addr) (cda : Addr) (ct : Value) (osl : Array (Option Value)) (qual : Str) (cc : Addr) (p1 p2 p3 q1 q2 q3 q4 q4' q5 q6 q7 q8 q9 q10 q11 q12 q13 q14 : Pos)
      (vs : Array Value) (file : Str) (tf : Tok) (ccl cl : Value) (cdd cld : Option Addr) (ccs csl : Array (Option Value)),
    K.lookup fI = some ⟨oc, od, .func (ksFn "__init__" qual (xA2 p1 p2 p3) (xBody2 q1 q2 q3 q4 q4' q5 q6 q7 q8 q9 q10 q11 q12 q13 q14) xScope2 .none .none doc pm an (.ref cda) ct cc), osl⟩ ∧ codeIn K (.ref cda) qual = true ∧
    K.lookup cda = some ⟨ccl, cdd, .fields vs, ccs⟩ ∧ vs[2]? = some (.str file tf) ∧ (q3.endLine == q5.line) = true ∧ ((P.main.file : Str) == file) = true ∧ K.lookup cc = some ⟨cl, cld, .cell (some (.ref D)), csl⟩
/-- the two fields -/
def two (v w : Value) : Str → Option Value := fun y => if y = "reason" then some w else if y = "number" then some v else none
structure XInitEnd2 (h h' : Heap) (x C dx t1 : Addr) (v w : Value) : Prop where
  keep : ∀ b o, b ≠ x → h.get? b = some o → h'.get? b = some o
  obj : h'.get? x = some { cls := .ref C, dict := some dx, data := .fields #[.ref t1, .none, .none, .none, .bool false, .none] }
  dbig : h.objs.size ≤ dx
  dne : dx ≠ x
  ns : h'.Ns1 dx (two v w)
structure XMade2 (h h' : Heap) (e C d : Addr) (v w : Value) : Prop where
  keep : ∀ b o, h.get? b = some o → h'.get? b = some o
  new : h.objs.size ≤ e
  obj : ∃ oe vs, h'.get? e = some oe ∧ oe.cls = .ref C ∧ oe.dict = some d ∧ oe.data = .fields vs ∧ vs[1]? = some .none
  dbig : h.objs.size ≤ d
  dne : d ≠ e
  ns : h'.Ns1 d (two v w)
theorem x_two (v w : Value) : [v, w].length ≤ sizeLine := by
  rw [sizeLine_eq]
  exact (by decide : 2 ≤ 16777216)
theorem mc_eq2 {o : Expr} {nm f1 f2 : Str} {q4 q4' a pos : Pos} {env : Env} (hl : (a.endLine == pos.line) = true) : eval (.Call (.Attribute o nm a) [.Name f1 q4, .Name f2 q4'] [] pos) env = (do
      let ov ← attributeBase o nm env (eval o env)
      standAt a.atName
      let (f, first) ← holding [ov] (getMethod ov nm (do return (← importBound o env).getD true))
      callWith pos f first (backTo pos (starEach [.Name f1 q4, .Name f2 q4'] env)) []) := by
  have hp : ∀ (few : Bool), methodCallPos few o env a pos = pure pos := fun few => by
    unfold methodCallPos
    rw [hl, Bool.or_true]
    rfl
  show (do
      let ov ← attributeBase o nm env (eval o env)
      standAt a.atName
      methodCall o nm a pos env ov ([Expr.Name f1 q4, .Name f2 q4'].length + ([] : List Keyword).length) (backTo pos (starEach [.Name f1 q4, .Name f2 q4'] env)) (backToKw pos (keywordEach [] env))) = _
  unfold methodCall
  simp only [hp, pure_bind]
  rfl
section
variable {prog : Program} {w : World} {A : Around} {E : Value → Shared → Prop} {R : Result → Shared → Prop} {s : Shared} {K : Frag} {mg mb : Str → Option Value} {C D fI : Addr}
theorem x_init2 (T : XTxt2 prog K mg C D fI) {x t0 : Addr} {v u : Value} (X : K.In s.heap) (hG : s.heap.Ns mainGlobals mg) (hB : s.heap.Ns builtinsNs mb) (hmb : mb "super" = some (.type "super")) (hlim : s.heap.NoLimit) (hx : s.heap.get? x = some (HandSPX.excO C t0)) (hnx : K.lookup x = none) (hroom : A.depth < recursionLimit)
    (hq : ∀ h' tk dx t1, XInitEnd2 s.heap h' x C dx t1 v u → R (.ok (.ret .none)) { s with heap := h', toks := tk }) :
    codeAny (model prog w) A (.call (.ref fI) ⟨[.ref x, v, u], []⟩) R s := by
  obtain ⟨oc, od, doc, pm, an, cda, ct, osl, qual, cc, p1, p2, p3, q1, q2, q3, q4, q4', q5, q6, q7, q8, q9, q10, q11, q12, q13, q14, vs, file, tf, ccl, cl, cdd, cld, ccs, csl, ho, hcd, hco, hvs, hline, hfile, hce⟩ := T.fn
  obtain ⟨nm, q, N, bs, bm, sn, sub, ab, col, dd, k0, k1, k2, k3, k5, B, nI, iI, hC, XV, rfl, rfl, rfl, hal, hsB⟩ := T.cls
  have XT : XTail bm "ValueError" "ValueError.__new__" "ValueError.__init__" := .ve XV
  obtain ⟨cdD, hD⟩ := T.clD
  have hcl : clsIn K C = some { name := nm, bases := bs, mro := .ref C :: bm, ns := N, qualname := q, hasDict := true, slotNames := sn, subclasses := sub, abstract := ab, collection := col, hasDel := false } := by unfold clsIn; rw [hC] <;> rfl
  refine ks_codeAny_call_defAt (fd := ksFn "__init__" qual (xA2 p1 p2 p3) (xBody2 q1 q2 q3 q4 q4' q5 q6 q7 q8 q9 q10 q11 q12 q13 q14) xScope2 .none .none doc pm an (.ref cda) ct cc) (binds := [("self", .ref x), ("number", v), ("reason", u)])
    hroom (X _ _ ho) rfl hlim (codeRec_of X hcd) rfl (BindsTo.of_eq (by rfl)) (by
      intro y hy
      have hy : y ∈ xScope2.names := hy
      simp only [xScope2, List.mem_cons, List.not_mem_nil, or_false] at hy
      rcases hy with rfl | rfl | rfl | rfl | rfl <;> exact fun z => nomatch z)
    (by exact locs rfl) (fun h₁ hn k => ?_) rfl rfl rfl
  have X₁ : K.In h₁ := X.keeps k
  have hx₁ := k _ _ hx
  have kS : (callEnv (ksFn "__init__" qual (xA2 p1 p2 p3) (xBody2 q1 q2 q3 q4 q4' q5 q6 q7 q8 q9 q10 q11 q12 q13 q14) xScope2 .none .none doc pm an (.ref cda) ct cc) s.heap.objs.size fI).kindOf "super" = some .globalImplicit := by rfl
  have kC : (callEnv (ksFn "__init__" qual (xA2 p1 p2 p3) (xBody2 q1 q2 q3 q4 q4' q5 q6 q7 q8 q9 q10 q11 q12 q13 q14) xScope2 .none .none doc pm an (.ref cda) ct cc) s.heap.objs.size fI).kindOf "__class__" = some .free := by rfl
  have kF : (callEnv (ksFn "__init__" qual (xA2 p1 p2 p3) (xBody2 q1 q2 q3 q4 q4' q5 q6 q7 q8 q9 q10 q11 q12 q13 q14) xScope2 .none .none doc pm an (.ref cda) ct cc) s.heap.objs.size fI).kindOf "number" = some .local := by rfl
  have dF : (("number" : Str) == ("__debug__" : Str)) = false := by decide
  have mS : (fun y => List.lookup y ([(("self" : Str), Value.ref x), ("number", v), ("reason", u)].reverse)) "self" = some (.ref x) := by rfl
  have mR : (fun y => List.lookup y ([(("self" : Str), Value.ref x), ("number", v), ("reason", u)].reverse)) "reason" = some u := by rfl
  have mF : (fun y => List.lookup y ([(("self" : Str), Value.ref x), ("number", v), ("reason", u)].reverse)) "number" = some v := by rfl
  obtain ⟨oD, hD1, hD2⟩ : ∃ oD, h₁.get? D = some oD ∧ oD.data = .cls cdD := by
    unfold clsIn at hD
    split at hD
    · rename_i c d cd' sl ho
      cases hD
      exact ⟨_, X₁ _ _ ho, rfl⟩
    · cases hD
  obtain ⟨hp, g, d, t, os⟩ := s
  refine ks_wpAt_execs_cons (ks_wpAt_Expr_any (ks_wpAt_MethodCall ?_ (mc_eq2 hline)) rfl (by rfl))
  refine ks_wpAt_super_base kS kC (by decide) rfl (X₁ _ _ ho) rfl rfl rfl (X₁ _ _ hco) rfl hvs hfile T.top ?_
  refine ks_loadName_global rfl kS (loadGlobal_builtin (hG.keeps k) T.mgS (hB.keeps k) hmb ⟨rfl, ?_⟩)
  refine wpAny_loadName_free rfl kC rfl ⟨_, X₁ _ _ hce, rfl⟩ ?_
  refine wpAny_loadName_local rfl rfl hn mS ?_
  refine ks_wpAny_isType_cls hD1 hD2 ⟨rfl, ?_⟩
  refine ks_wpAny_call_super hD1 hD2 hx₁ rfl (fun c e => nomatch e) (looks_mroIn X₁ T.sub) (fun h₂ e₂ k₂ => ?_)
  have X₂ : K.In h₂ := X₁.keeps k₂
  have hx₂ := k₂ _ _ hx₁
  have hxC : x ≠ C := fun e => by
    rw [e, hC] at hnx
    cases hnx
  have I₂ : InstAt h₂ x (HandSPX.excO C t0) C none := ⟨hx₂, rfl, rfl, trivial⟩
  refine kxs_getMethod XT.kx e₂ (looks_opaque X₂ T.oany) (l₀ := .ref C :: bm) ?_ rfl X₂ hal (I₂.type.andThen (looks_subIn X₂ hsB)) hxC (by decide) ?_
  · exact (looks_clsIn X₂ hcl).andThen .now
  have kk : ∀ b o, h₁.get? b = some o → (h₂.push (kxs_mw "ValueError.__init__" x)).get? b = some o := fun b o e => Heap.get?_push_of_some _ (k₂ b o e)
  have X₃ : K.In (h₂.push (kxs_mw "ValueError.__init__" x)) := X₁.keeps kk
  have hx₃ := kk _ _ hx₁
  have hu : (h₂.push (kxs_mw "ValueError.__init__" x)).get? h₂.objs.size = some (kxs_mw "ValueError.__init__" x) := Heap.get?_push_at rfl rfl
  have hnL : (h₂.push (kxs_mw "ValueError.__init__" x)).Ns hp.objs.size (fun y => List.lookup y ([(("self" : Str), Value.ref x), ("number", v), ("reason", u)].reverse)) := hn.keeps kk
  obtain ⟨bmB, FB, hbm⟩ := XT.has
  refine kxs_callWith (i := "ValueError.__init__") (x := x) (s := ⟨h₂.push (kxs_mw "ValueError.__init__" x), _, _, _, _⟩) (by rfl) ?_
  refine evalArgs_plain (Calls.spliced_cons (ldX hnL mF ?_ rfl rfl (by decide)))
  refine Calls.spliced_cons (ldX hnL mR ?_ rfl rfl (by decide))
  refine Calls.spliced_nil ⟨hu, ?_⟩
  refine wpAny_call (codeAny_of_tree ?_)
  show wpAny _ _ (callAny (.ref h₂.objs.size) ⟨[v, u], []⟩) _ _ _
  simp only [callAny]
  refine wpAny_bind (wpAny_load hu ?_)
  simp only [kxs_mw, show (Value.type "method-wrapper" == Value.type "method" || Value.type "method-wrapper" == Value.type "builtin_function_or_method" || Value.type "method-wrapper" == Value.type "method-wrapper") = true by decide, if_true]
  refine KFB.if_so (by decide) ?_
  refine wpAny_bind (check_bound_init FB.toExcCallFacts (X₃ _ _ hC) hx₃ rfl ?_)
  refine wpAny_bind (wpAny_pure (wpAny_pure ?_))
  refine ⟨plainId_quiet FB.init.plain _, codeAny_builtin FB.initEntry ?_⟩
  refine exc_init_tree (cls := .ref C) (t0 := t0) (dv := none) (c2 := .none) (c3 := .none) (b4 := .bool false) hx₃ (x_two v u) fun h₄ k₄ hx₄ _ => ?_
  show PySem.wpAt _ _ _ (execs _ _) _ _ _
  have hxL : hp.objs.size ≠ x := Nat.ne_of_gt (Heap.lt_size hx)
  have X₄ : K.In h₄ := x_kept X₃ hnx k₄
  have k14 : ∀ b o, b ≠ x → h₁.get? b = some o → h₄.get? b = some o := fun b o e z => k₄ b o e (kk b o z)
  have hn₄ : h₄.Ns hp.objs.size (fun y => List.lookup y ([(("self" : Str), Value.ref x), ("number", v), ("reason", u)].reverse)) := (hn.keeps kk).at fun o e => k₄ _ _ hxL e
  -- self.number = number
  refine ks_wpAt_execs_cons (ks_wpAt_Assign_Attr (wpAt_of_wpAny (ldX hn₄ mF ?_ rfl rfl (by decide))) rfl)
  refine ldX hn₄ mS ?_ rfl rfl (by decide)
  refine set_plain X₄ (ox := { cls := .ref C, dict := none, data := .fields #[.ref (h₂.push (kxs_mw "ValueError.__init__" x)).objs.size, .none, .none, .none, .bool false, .none] }) (od := none) ⟨hx₄, rfl, rfl, trivial⟩ T.sa ?_
  refine XT.osa X₄ hx₄ hcl rfl rfl T.noN (fun h₅ tk₅ dx k₅ dn dne hx₅ hn₅ => ?_)
  have X₅ : K.In h₅ := x_kept X₄ hnx k₅
  have hn₅' : h₅.Ns hp.objs.size (fun y => List.lookup y ([(("self" : Str), Value.ref x), ("number", v), ("reason", u)].reverse)) := hn₄.at fun o e => k₅ _ _ hxL e
  have dL : hp.objs.size ≠ dx := Nat.ne_of_lt (Nat.lt_of_lt_of_le hn₄.lt dn)
  have nodx : K.lookup dx = none := by
    cases e : K.lookup dx with
    | none => rfl
    | some o => exact absurd (Heap.lt_size (X₄ _ _ e)) (Nat.not_lt_of_le dn)
  -- self.reason = reason
  obtain ⟨oD, _, _, hoD, _, _⟩ := id hn₅
  show PySem.wpAt _ _ _ (execs _ _) _ _ _
  refine ks_wpAt_execs_cons (ks_wpAt_Assign_Attr (wpAt_of_wpAny (ldX hn₅' mR ?_ rfl rfl (by decide))) rfl)
  refine ldX hn₅' mS ?_ rfl rfl (by decide)
  refine set_plain X₅ (ox := { cls := .ref C, dict := some dx, data := .fields #[.ref (h₂.push (kxs_mw "ValueError.__init__" x)).objs.size, .none, .none, .none, .bool false, .none] }) (od := some oD) ⟨hx₅, rfl, rfl, hoD⟩ T.sa ?_
  have within : Within (fun y => if y = ("number" : Str) then some v else none) ["number"] := fun y hy => by
    by_cases h : y = ("number" : Str)
    · rw [h]
      exact List.mem_singleton.mpr rfl
    · exact absurd (if_neg h) hy
  refine PySem.OEX.osa_old X₅ hx₅ hn₅ within (by decide) hcl (show HandSPX.refsVE (.ref C :: bm) = true from XV) rfl T.noR (fun h₆ tk₆ k₆ hn₆ => ?_)
  refine wpAt_of_wpAny (wpAny_execs_nil (hq h₆ tk₆ dx _ ⟨fun b o hb e => ?_, k₆ _ _ (Ne.symm dne) hx₅, Nat.le_of_lt (Nat.lt_of_lt_of_le hn₄.lt dn), dne, ?_⟩))
  · have hb2 : b ≠ dx := fun z => by
      rw [z] at e
      exact absurd (Heap.lt_size e) (Nat.not_lt_of_le (Nat.le_of_lt (Nat.lt_of_lt_of_le hn₄.lt dn)))
    exact k₆ b o hb2 (k₅ b o hb (k14 b o hb (k b o e)))
  · exact hn₆
theorem x_made2 (T : XTxt2 prog K mg C D fI) {v u : Value} (X : K.In s.heap) (hG : s.heap.Ns mainGlobals mg) (hB : s.heap.Ns builtinsNs mb) (hmb : mb "super" = some (.type "super")) (hlim : s.heap.NoLimit) (hroom : A.depth + 1 < recursionLimit)
    (hq : ∀ h' tk e d, XMade2 s.heap h' e C d v u → R (.ok (.ret (.ref e))) { s with heap := h', toks := tk }) :
    codeAny (model prog w) A (.call (.ref C) ⟨[v, u], []⟩) R s := by
  obtain ⟨nm, q, N, bs, bm, sn, sub, ab, col, dd, k0, k1, k2, k3, k5, B, nI, iI, hC, XV, rfl, rfl, rfl, hal, hsB⟩ := T.cls
  have XT : XTail bm "ValueError" "ValueError.__new__" "ValueError.__init__" := .ve XV
  obtain ⟨bmB, FB, hbm⟩ := XT.has
  obtain ⟨hp, g, dr, tk, os⟩ := s
  have k : ∀ b o, hp.get? b = some o → ((hp.push (kdv_tup [v, u])).push (HandSPX.excO C hp.objs.size)).get? b = some o := fun b o e => Heap.get?_push_of_some _ (Heap.get?_push_of_some _ e)
  have hget : ((hp.push (kdv_tup [v, u])).push (HandSPX.excO C hp.objs.size)).get? (hp.objs.size + 1) = some (HandSPX.excO C hp.objs.size) := by heap_get
  have hnx : K.lookup (hp.objs.size + 1) = none := by
    cases e : K.lookup (hp.objs.size + 1) with
    | none => rfl
    | some o =>
      have z : hp.get? (hp.objs.size + 1) = some o := X _ _ e
      exact absurd (Nat.lt_of_succ_lt (Heap.lt_size z)) (Nat.lt_irrefl _)
  refine HandSPX.call_own FB hbm (X _ _ hC) (looks_findIn X T.iC) (fun self => bind_fn X self T.tC) (x_two v u) ?_
  refine x_init2 (mb := mb) (s := ⟨(hp.push (kdv_tup [v, u])).push (HandSPX.excO C hp.objs.size), g, dr, tk, os⟩) T (X.keeps k) (hG.keeps k) (hB.keeps k) hmb (hlim.keeps k) hget hnx ?_ fun h' tk' dx t1 ⟨k', hx, dn, dne, hns⟩ => ?_
  · show A.depth + 1 < recursionLimit
    exact hroom
  · have old : ∀ b o, hp.get? b = some o → h'.get? b = some o := fun b o e => k' b o (Nat.ne_of_lt (Nat.lt_succ_of_lt (Heap.lt_size e))) (k b o e)
    have z : hp.objs.size + 1 + 1 ≤ dx := by
      first
        | (simpa only [Heap.size_push] using dn)
        | exact dn
        | (have q := dn; rw [Heap.size_push, Heap.size_push] at q; exact q)
    exact ⟨rfl, hq h' tk' (hp.objs.size + 1) dx ⟨old, Nat.le_succ _, ⟨_, _, hx, rfl, rfl, rfl, rfl⟩, Nat.le_trans (Nat.le_trans (Nat.le_succ _) (Nat.le_succ _)) z, dne, hns⟩⟩
end
end Mp
namespace Mp
open PySem PySem.Spec PyProof.Rows L2
theorem relO_two {v w : V} {v' w' : Value} (r : RelV v v') (q : RelV w w') (f : Str) : RelO (List.lookup f [(("reason" : Str), w), ("number", v)]) (two v' w' f) := by
  unfold two
  by_cases h : f = "reason"
  · rw [if_pos h, h]
    exact q
  · rw [if_neg h]
    have e : (f == ("reason" : Str)) = false := by simpa using h
    by_cases h2 : f = "number"
    · rw [if_pos h2, h2]
      exact r
    · rw [if_neg h2]
      have e2 : (f == ("number" : Str)) = false := by simpa using h2
      simp only [List.lookup, e, e2]
      trivial
section
variable {X : Cx} {Γ : Cfg} {W : WX} {C D fI : Addr} {cn : Str}
def tMkX2 (C : Addr) (ta : TA) : L2.St → Hp → XK → Prop := fun σ H Q => ta σ H fun vs H1 => ∃ v u, vs = [v, u] ∧ ∀ d, H1 d = none → Q (.ref C) (some d) (upd H1 d (.xd [("reason", u), ("number", v)]))
theorem pmk_x2 {a b : Expr} {ta : TA} {p pos : Pos} (T : XTxt2 X.prog X.K X.mg C D fI) (gC : X.mg cn = some (.ref C)) (hr : X.A.depth + 2 < recursionLimit) (ha : PA X [a, b] ta) (hg : Gl X cn) (hd : (cn == ("__debug__" : Str)) = false)
    (he : starEach [a, b] X.env = (false, eval a X.env) :: starEach [b] X.env := by rfl) (hpl : (backTo pos (starEach [b] X.env)).any (·.1) = false := by rfl) :
    PMk X (.Call (.Name cn p) [a, b] [] pos) (tMkX2 C ta) := by
  intro pins s σ H Q I h
  refine wpAny_Call_Name_kw (ld_glob I hg gC ?_ hd)
  refine PySem.W.callWith_K (h₀ := X.base) I.ok.mod.kin T.kC (thn (ha.run pos pins s σ H _ I h) fun us s1 hh => ?_) he hpl
  obtain ⟨vs, H1, I1, r1, v, w', ev, q1⟩ := hh
  subst ev
  refine ⟨I1.kIn, ?_⟩
  cases r1 with
  | cons rv rn =>
    rename_i v' us'
    cases rn with
    | cons rw2 rn =>
    rename_i u' us2
    cases rn
    show wpAny _ _ (call (.ref C) [v', u']) _ _ _
    have hlim := I1.nolimit
    obtain ⟨mb, hB, hmb⟩ := I1.mod.blt
    have hG' := I1.mod.glob.keeps I1.bk
    have hB' := hB.keeps I1.bk
    obtain ⟨hp, g, dr, tk, os⟩ := s1
    refine wpAny_call (x_made2 T I1.kIn hG' hB' ((hmb "super" (by decide)).trans (by first | boot_by_name | rfl | kernel_rfl)) hlim (by
      show X.A.depth + 1 < recursionLimit
      omega) fun h' tk' e d M => ?_)
    show MkP X pins σ Q (.ref e) ⟨h', g, dr, tk', os⟩
    obtain ⟨oe, fv, hoe, hc, hd, hdat, h1⟩ := M.obj
    have hns := M.ns
    obtain ⟨G', g1, g2⟩ := restrict h' fun b => decide (b ≠ e)
    have gk : ∀ b, b ≠ e → G'.get? b = h'.get? b := fun b hb => g1 b (decide_eq_true hb)
    have ge : G'.get? e = none := g2 e (by simp)
    have old : ∀ b o, hp.get? b = some o → G'.get? b = some o := fun b o q => (gk b (Nat.ne_of_lt (Nat.lt_of_lt_of_le (Heap.lt_size q) M.new))).trans (M.keep b o q)
    have ob : ObjOk X.prog X.w (upd H1 d (.xd [("reason", w'), ("number", v)])) G' d (.xd [("reason", w'), ("number", v)]) :=
      ⟨_, hns.at (fun o q => (gk d M.dne).trans q), fun f => relO_two rv rw2 f⟩
    have J : Inv X pins σ (upd H1 d (.xd [("reason", w'), ("number", v)])) ⟨G', g, dr, tk', os⟩ := I1.laid (t' := tk') old M.dbig ob
    refine ⟨e, oe, fv, ⟨G', g, dr, tk', os⟩, _, .ref C, some d, rfl, J, fun b o q => ?_, ge, hoe, ⟨hc, hd⟩, hdat, h1, ?_, rfl, I1.bare, raises_own T.exC T.tyC, q1 d (I1.hok.fresh M.dbig)⟩
    · by_cases hb : b = e
      · have q' : G'.get? b = some o := q
        rw [hb, ge] at q'; cases q'
      · exact (gk b hb).symm.trans q
    · rw [upd_ne (Ne.symm M.dne)]
      exact I1.hok.fresh M.new

/-- raise C(a, b) -/
def sRaise2 (c : Nat) (ma : MA) : MS := fun e st => (ma e st).sr e fun l s => match l with
  | [d, f] => .exc ⟨c, [("reason", f), ("number", d)]⟩ e s
  | _ => .bad
theorem s_raise2 (c : Nat) {a b : Expr} {ma : MA} {p pos pos2 : Pos} (hc : X.calm = true) (tk : Takes X W) (T : XTxt2 X.prog X.K X.mg (Γ.ca c) D fI) (gC : X.mg cn = some (.ref (Γ.ca c))) (hr : X.A.depth + 2 < recursionLimit) (ha : PA X [a, b] (dA Γ W ma)) (hg : Gl X cn := by rfl)
    (hd : (cn == ("__debug__" : Str)) = false := by decide) (he : starEach [a, b] X.env = (false, eval a X.env) :: starEach [b] X.env := by rfl) (hpl : (backTo pos (starEach [b] X.env)).any (·.1) = false := by rfl) :
    PS X (.Raise (some (.Call (.Name cn p) [a, b] [] pos)) none pos2) (dS Γ W (sRaise2 c ma)) := by
  refine ps_imp (ps_raise hc tk (pmk_x2 T gC hr ha hg hd he hpl)) ?_
  rintro D σ H ⟨μ, e, sto, r, re, k⟩
  refine ⟨μ, e, sto, r, re, KS.bindR re k fun l s1 μ1 H1 vs _ e1 r1 q1 k1 => ?_⟩
  match l, q1 with
  | [d, f], q1 =>
    obtain ⟨v, rr, ev, q2, q3⟩ := q1
    obtain ⟨u, r2, eu, q4, q5⟩ := q3
    have q5 : r2 = [] := q5
    subst q5
    subst eu
    refine ⟨v, u, ev, fun d' hd' => ?_⟩
    exact k1 μ1 _ σ _ _ (Ext.new0 hd') (r1.new0 hd') ((re.mono e1).mono (Ext.new0 hd')) ⟨rfl, d', _, rfl, upd_same, u, _, rfl, q4.mono (Ext.new0 hd'), v, [], rfl, q2.mono (Ext.new0 hd'), rfl⟩
  | [], q1 => exact k1.elim
  | [_], q1 => exact k1.elim
  | _ :: _ :: _ :: _, q1 => exact k1.elim
end
end Mp

set_option Elab.async false
set_option linter.all false
set_option maxRecDepth 100000
set_option maxHeartbeats 2000000
/-! Mp23: an own def called within a suite with the exception that the suite holds. -/
namespace Mp
open PySem PySem.Spec PyProof.Rows L2
def mHot (k : Nat) (b : MS) : M := fun _ st => match b (List.replicate k none) st with
  | .rt v s => .ok v s
  | .nx _ s => .ok .non s
  | _ => .bad
/-- the context of such a def's body -/
abbrev hotX (P : Program) (w : World) (K : PySem.W.Frag) (mg : Str → Option Value) (base : Heap) (N : List Str) (qual : Str) (st : Stmt) (f : Addr) (cdv : Value) (A : Around) (outer : List PySem.Env) (s : Shared) (H : Hp) (E : XK) (p : Addr × Obj) : Cx :=
  L2H.cxH (L2.CX P w) P w K mg base N qual (defScope st) f cdv A outer s H E p
section
variable {X : Cx} {Γ : Cfg} {W : WX} {i : Nat} {a d : Addr} {x : Ex} {oe : Obj} {pn : List (Addr × Obj)} {n fn qual : Str} {p pos p2 : Pos} {st : Stmt} {f : Addr} {fd : FuncData} {N : List Str} {pnm : Str} {b : MS}
theorem RS.swap {μ : List Addr} {H : Hp} {sto : Sto} (q q' : Cur) (hx : q'.x = q.x) (hd : q'.d = q.d) (h : RS (Γ.with q) μ H sto) : RS (Γ.with q') μ H sto :=
  ⟨h.len, h.inj, fun m o e => by obtain ⟨u, h1, h2⟩ := h.ob m o e; exact ⟨u, h1, h2.cong (Γ := Γ.with q) (Δ := Γ.with q') rfl rfl rfl⟩, fun z hz => by
    have hz : some q' = some z := hz
    cases hz
    rw [hx, hd]
    exact (h.cur q rfl).cong (Γ := Γ.with q) (Δ := Γ.with q') rfl rfl rfl⟩
theorem REl.noneAll {μ : List Addr} {H : Hp} : ∀ (s : L2.St), REl Γ μ H (List.replicate s.length none) s
  | [] => rfl
  | v :: s => ⟨v, s, rfl, fun d e => (by cases e), REl.noneAll s⟩
theorem m_hot (hz : ∃ vs, oe.data = .fields vs) (F : Fun X.K fn qual st f fd) (S : FnScope N [pnm] (defScope st)) (hg : Gl X fn) (hm : X.mg fn = some (.ref f)) (hk : PySem.W.keepIn X.K (.ref f) = true) (hb : Binds X.K fd [pnm] []) (hdp : X.A.depth + 10 < recursionLimit) (hu : X.A.units + 1110 < cLine)
    (hN : X.N[i]? = some n) (hv : Vis X.env.scope n) (hd : (n == ("__debug__" : Str)) = false) (hcd : (n == ("__classdict__" : Str)) = false) (hdf : (fn == ("__debug__" : Str)) = false)
    (body : ∀ (cdv : Value) (A : Around) (outer : List PySem.Env) (s : Shared) (H : Hp) (E : XK), A.units + 1100 < cLine → PSs (hotX X.prog X.w X.K X.mg X.base N qual st f cdv A outer s H E (a, oe)) (defBody st) (dS (Γ.with ⟨0, a, d, x⟩) Wno b))
    (he : starEach [.Name n p2] X.env = (false, eval (.Name n p2) X.env) :: starEach [] X.env := by rfl) (hpl : (backTo pos (starEach [] X.env)).any (·.1) = false := by rfl) :
    PE (X.suite a ((a, oe) :: pn)) (.Call (.Name fn p) [.Name n p2] [] pos) (dE (Γ.with ⟨i, a, d, x⟩) W (mHot N.length b)) := by
  refine ⟨fun pins s σ H Q I h => ?_⟩
  obtain ⟨μ, en, sto, r, re, ko⟩ := h
  have hv0 := re.cur ⟨i, a, d, x⟩ rfl
  obtain ⟨oc, od, kV, doc, pm, an, cdv, ct, osl, rfl, lk, hcd'⟩ := F.ex
  refine wpAny_Call_Name_kw (ld_glob I hg hm ?_ hdf)
  refine PySem.W.callWith_K (h₀ := X.base) I.ok.mod.kin hk (thn ((pa_cons (pe_var (X := X.suite a ((a, oe) :: pn)) (i := i) hN hv hd hcd) pa_nil he).run pos pins s σ H (fun vs H1 => vs = [.ref a] ∧ H1 = H) I ⟨.ref a, hv0, rfl, rfl⟩) fun us s1 ⟨vs, H1, I1, rv, ev, eH⟩ => ⟨I1.kIn, ?_⟩) he hpl
  subst ev eH
  obtain ⟨hget, hfree, hnL, hnF, hnc⟩ := I1.pin (a, oe) (List.mem_append_left _ List.mem_cons_self)
  have hpin : L2H.PinOk X.stack H1 s1 (a, oe) := ⟨hget, hfree, fun hm => (List.mem_cons.mp (I1.stkSub a hm)).elim hnL hnF, hnc⟩
  have env0 := I1.env0
  have inK : X.K.In s1.heap := I1.kIn
  have noL := I1.nolimit
  have hl : us.length = 1 := by rw [← rv.length]; rfl
  have bnd := hb s1 us inK (by rw [List.append_nil]; exact hl)
  rw [List.append_nil] at bnd
  have kinds : ∀ y ∈ [pnm].zip us, (defScope st).names.lookup y.1 = some .local ∨ ((defScope st).names.lookup y.1 = some .cell ∧ ((cellsFrom (s1.heap.objs.size + 1) (defScope st).names []).lookup y.1).isSome = true) := by
    rintro ⟨m, v⟩ hy
    cases S.par m (List.of_mem_zip hy).1 with
    | inl q => exact .inl q
    | inr q => exact .inr ⟨q, PySem.W.cellsFrom_some _ _ _ (.inl q)⟩
  refine wpAny_call (codeAny_mono (R := CR (L2.CX X.prog X.w) X.stack X.prog X.w H1 s1 Q (fun _ _ _ => False)) ?_ fun res s' hq => ?_)
  · refine codeAny_call_function (by show X.A.depth < recursionLimit; omega) (inK _ _ lk) rfl S.co S.gen rfl (PySem.W.codeRec_of inK hcd') (bnd _ _ _ _ ?_)
    refine wpAny_newFunctionEnv_cells S.kind kinds fun env' he s2 y => ?_
    subst he
    refine ⟨noL.keeps y.toInCall.keep, codeAny_func ?_⟩
    have J := L2H.inv_startH (CX := L2.CX X.prog X.w) (E := fun _ _ _ => False) S hpin env0 (show [V.ref a].length = [pnm].length from rfl) rv y
    have ready : dS (Γ.with ⟨0, a, d, x⟩) Wno b { nx := fun _ H' => Q .non H', rt := Q } (L2.start N [.ref a]) H1 := by
      have hlen : (L2.start N [V.ref a]).length = N.length := by
        have h1 : (N.take 1).length = 1 := by rw [show N.take 1 = N.take [pnm].length from rfl, S.pre]; rfl
        rw [List.length_take] at h1
        unfold L2.start
        rw [List.length_append, List.length_map, List.length_replicate]
        show 1 + (N.length - 1) = N.length
        omega
      refine ⟨μ, List.replicate N.length none, sto, r.swap ⟨i, a, d, x⟩ ⟨0, a, d, x⟩ rfl rfl, ⟨?_, fun z hz => ?_⟩, ?_⟩
      · rw [← hlen]
        exact REl.noneAll _
      · have hz : some (⟨0, a, d, x⟩ : Cur) = some z := hz
        cases hz
        rfl
      · unfold mHot at ko
        cases hr : b (List.replicate N.length none) sto with
        | rt v s3 =>
          rw [hr] at ko
          intro μ' H' u e1 r1 ru
          exact ko μ' H' u e1 (r1.swap ⟨0, a, d, x⟩ ⟨i, a, d, x⟩ rfl rfl) (ru.cong (Γ := Γ.with ⟨0, a, d, x⟩) (Δ := Γ.with ⟨i, a, d, x⟩) rfl rfl)
        | nx e3 s3 =>
          rw [hr] at ko
          intro μ' H' σ' e1 r1 _
          exact ko μ' H' .non e1 (r1.swap ⟨0, a, d, x⟩ ⟨i, a, d, x⟩ rfl rfl) RD.non
        | bk e3 s3 => rw [hr] at ko; exact ko.elim
        | ct e3 s3 => rw [hr] at ko; exact ko.elim
        | exc y e3 s3 => rw [hr] at ko; exact ko.elim
        | bad => rw [hr] at ko; exact ko.elim
    refine wpAny_mono ((body cdv (X.A.mark (some (.ref a))) X.stack s1 H1 (fun _ _ _ => False) (by show X.A.units + 1100 < cLine; omega)).run [] s2 (L2.start N [.ref a]) H1 _ J ready) (fun fl s' hs => ?_) (fun _ _ z => z)
    have ending : ∀ (σ' : L2.St) (H' : Hp) (v : V) (u : Value), Inv (hotX X.prog X.w X.K X.mg X.base N qual st f cdv (X.A.mark (some (.ref a))) X.stack s1 H1 (fun _ _ _ => False) (a, oe)) [] σ' H' s' → RelV v u → Q v H' → CE X.stack X.prog X.w H1 s1 Q u s' := by
      intro σ' H' v u J rv q
      exact ⟨v, H', J.os, J.bare, J.base, J.hok, rv, q⟩
    cases fl with
    | ret u => obtain ⟨v, σ', H', J, rv, q⟩ := hs; exact ending σ' H' v u J rv q
    | next => obtain ⟨σ', H', J, q⟩ := hs; exact ending σ' H' .non .none J rfl q
    | brk => exact hs.elim fun _ z => z.elim fun _ z => z.2.elim
    | cont => exact hs.elim fun _ z => z.elim fun _ z => z.2.elim
  · match res, hq with
    | .error e, hq => exact (by obtain ⟨_, _, _, _, _, _, _, _, _, _, _, _, _, _, z⟩ := hq)
    | .ok (.ret u), hq => exact I1.after hq
    | .ok .next, hq => exact hq.elim
    | .ok .brk, hq => exact hq.elim
    | .ok .cont, hq => exact hq.elim
/-- isinstance(e, C) in such a def, and in a suite alike: any context that pins the exception -/
theorem call_xisP {Y : Cx} {dv : Option Addr} {C : Addr} (hp : (a, oe) ∈ Y.pn) (T : ExcC Y.K C) (hz : Zc (.ref C) dv oe) (hf : ∃ vs, oe.data = .fields vs) : CallR Y (.builtin "isinstance") (rXis Y.K C a dv) := by
  intro pins s σ H xs us Q I r h
  obtain ⟨hxd, c, cv, q, rfl, hcv, e, k⟩ := h
  cases r with
  | cons rx rr =>
    cases rr with
    | cons rt rr =>
      cases rr
      cases rx
      have ec := hcv _ rt
      subst ec
      obtain ⟨hget, _⟩ := I.pin (a, oe) (List.mem_append_left _ hp)
      obtain ⟨vs, hv⟩ := hf
      have nc : PySem.W.notCls oe = true := by unfold PySem.W.notCls; rw [hv] <;> rfl
      have J : ∃ od, PySem.W.InstAt s.heap a oe C od := by
        cases hdv : dv with
        | none =>
          rw [hdv] at hz
          exact ⟨none, hget, hz.1, nc, by rw [hz.2]; trivial⟩
        | some dd =>
          obtain ⟨fs, e3⟩ := hxd dd hdv
          have hx : ObjOk Y.prog Y.w H s.heap dd (.xd fs) := I.hok dd _ e3
          obtain ⟨mA, hns, hr⟩ := hx
          obtain ⟨od, ho, hlk⟩ := lookIn_ns hns
          rw [hdv] at hz
          exact ⟨some od, hget, hz.1, nc, by rw [hz.2]; exact ho⟩
      obtain ⟨od, J⟩ := J
      have hcl : (PySem.W.clsIn Y.K C).isSome = true := by
        obtain ⟨cd, hc, _⟩ := PySem.W.any_some T.hd
        rw [hc]
        rfl
      exact PySem.W.kia_one (PySem.W.kitx_exc hcl T.hg T.hk T.hs T.ha T.hn T.ht T.hm) I.kIn J e (fun z => nomatch z) fun tk => ⟨.bl q, H, I.kept (t' := tk) fun _ _ z => z, rfl, k⟩
/-- what stands behind isinstance's second place: an own class or a built-in one -/
structure Tgt (Y : Cx) (cn : Str) (c : V) (cv : Value) : Prop where
  pe : ∀ {p3 : Pos}, PE Y (.Name cn p3) (tC c)
  rel : ∀ u, RelV c u → u = cv
theorem tgt_own {Y : Cx} {cn : Str} {CE : Addr} (hg : Gl Y cn) (hm : Y.mg cn = some (.ref CE)) (hd : (cn == ("__debug__" : Str)) = false) : Tgt Y cn (.ref CE) (.ref CE) := ⟨pe_glob hg hm rfl hd, fun u h => h⟩
theorem tgt_bltn {Y : Cx} {cn : Str} {T : String} (hg : Gl Y cn) (hm : Y.mg cn = none) (hv : bootBuiltins cn = some (.type T)) (hn : cn ≠ "__name__") (hd : (cn == ("__debug__" : Str)) = false) : Tgt Y cn (.ty T) (.type T) := ⟨pe_bltn hg hm hv rfl hn hd, fun u h => h⟩
theorem m_isP {Y : Cx} {sel : Nat → Option Bool} {cn : Str} {c : V} {cv : Value} {p3 : Pos} (hp : (a, oe) ∈ Y.pn) (hK : Y.K = Γ.K) (hz : Zc (.ref (Γ.ca x.c)) (some d) oe) (hf : ∃ vs, oe.data = .fields vs) (hsel : ∀ k b, sel k = some b → ExcC Γ.K (Γ.ca k) ∧ PySem.W.kitOne Γ.K (.ref (Γ.ca k)) cv = some b)
    (hgi : Gl Y "isinstance") (hmi : Y.mg "isinstance" = none) (T : Tgt Y cn c cv) (hN : Y.N[i]? = some n) (hv : Vis Y.env.scope n) (hd : (n == ("__debug__" : Str)) = false) (hcd : (n == ("__classdict__" : Str)) = false)
    (he : starEach [.Name n p2, .Name cn p3] Y.env = (false, eval (.Name n p2) Y.env) :: starEach [.Name cn p3] Y.env := by rfl) (he2 : starEach [.Name cn p3] Y.env = (false, eval (.Name cn p3) Y.env) :: starEach [] Y.env := by rfl)
    (hpl : (backTo pos (starEach [.Name cn p3] Y.env)).any (·.1) = false := by rfl) :
    PE Y (.Call (.Name "isinstance" p) [.Name n p2, .Name cn p3] [] pos) (dE (Γ.with ⟨i, a, d, x⟩) W (mXis sel x)) := by
  refine ⟨fun pins s σ H Q I h => ?_⟩
  obtain ⟨μ, e, st, r, re, k⟩ := h
  have hv0 := re.cur ⟨i, a, d, x⟩ rfl
  unfold mXis at k
  split at k
  case h_2 => exact k.elim
  rename_i q hq
  obtain ⟨TC, ek⟩ := hsel _ _ hq
  obtain ⟨_, dd, vs, e2, e3, e4⟩ := r.cur ⟨i, a, d, x⟩ rfl
  cases e2
  refine (pe_callB (X := Y) (x := "isinstance") (id := "isinstance") (call_xisP (Y := Y) (C := Γ.ca x.c) (dv := some d) hp (by rw [hK]; exact TC) hz hf) hgi hmi (by decide +kernel) (pa_cons (pe_var (X := Y) (i := i) hN hv hd hcd) (pa_cons T.pe pa_nil he2) he) (by decide) (by decide) he hpl).run pins s σ H Q I ?_
  refine ⟨.ref a, hv0, fun dd hdd => ?_, c, cv, q, rfl, T.rel, by rw [hK]; exact ek, k.ok r RD.bl⟩
  cases hdd
  exact ⟨_, e3⟩
end
end Mp

set_option Elab.async false
set_option linter.all false
set_option maxRecDepth 100000
set_option maxHeartbeats 2000000
/-! Mp24: facts for the error with two fields, for built-in classes. -/
namespace Mp
open PySem PySem.Spec PyProof.Rows L2
section
variable {P : Program} {K : PySem.W.Frag} {h : Heap} {mg : Str → Option Value}
theorem xtxt2_mk {C D fI N : Addr} {nm q : Str} {bs bm sub : List Value} {sn : List Str} {ab : Bool} {col : Option Bool} {dd : Option Addr} {k0 k1 k2 k3 k5 : Option Value} {B nI iI : String}
    (lC : K.lookup C = some (excClassObj nm q C N bs bm true sn sub ab col dd k0 k1 k2 k3 k5 nI)) (XT : HandSPX.refsVE bm = true ∧ nI = "ValueError.__new__" ∧ iI = "ValueError.__init__" ∧ B = "ValueError") (al : PySem.W.ks_superIn K C D "__init__" = some (some (.builtin iI))) (sB : PySem.W.subIn K (.ref C) (.type B) = some true)
    (sa : PySem.W.findIn K (.ref C) "__setattr__" = some (some (.builtin "object.__setattr__"))) (R : XRd K C "number") (noR : PySem.W.findIn K (.ref C) "reason" = some none) (iC : PySem.W.findIn K (.ref C) "__init__" = some (some (.ref fI))) (tC : PySem.W.typeIn K (.ref fI) = some (.type "function")) (kC : PySem.W.keepIn K (.ref C) = true)
    (tyC : PySem.W.typeIn K (.ref C) = some (.type "type")) (oany : PySem.W.nsIn K cStatics "thirdparty.any" = some none) (top : (P.main.scope.names.lookup ("super" : Str)).isSome = false) (mgS : mg "super" = none) (sub' : PySem.W.mroIn K C (.ref D) = some true)
    (hdD : PySem.W.hasDictIn K D = true)
    {oc doc pm ct ccl cl : Value} {od an cdd cld : Option Addr} {cda cc : Addr} {osl ccs csl : Array (Option Value)} {qual file : Str} {p1 p2 p3 q1 q2 q3 q4 q4' q5 q6 q7 q8 q9 q10 q11 q12 q13 q14 : Pos} {vs : Array Value} {tf : Tok}
    (lI : K.lookup fI = some ⟨oc, od, .func (PySem.W.ksFn "__init__" qual (xA2 p1 p2 p3) (xBody2 q1 q2 q3 q4 q4' q5 q6 q7 q8 q9 q10 q11 q12 q13 q14) xScope2 .none .none doc pm an (.ref cda) ct cc), osl⟩) (cI : PySem.W.codeIn K (.ref cda) qual = true)
    (lA : K.lookup cda = some ⟨ccl, cdd, .fields vs, ccs⟩) (hv : vs[2]? = some (.str file tf)) (hl : (q3.endLine == q5.line) = true) (hf : ((P.main.file : Str) == file) = true) (lB : K.lookup cc = some ⟨cl, cld, .cell (some (.ref D)), csl⟩) : XTxt2 P K mg C D fI where
  cls := by
    refine ⟨nm, q, N, bs, bm, sn, sub, ab, col, dd, k0, k1, k2, k3, k5, B, nI, iI, lC, XT.1, XT.2.1, XT.2.2.1, XT.2.2.2, ?_, sB⟩
    unfold PySem.W.ks_superIn PySem.W.clsIn at al
    rw [lC] at al
    exact al
  sa := sa
  ga := R.ga
  gg := R.gg
  noN := R.noN
  noR := noR
  iC := iC
  tC := tC
  kC := kC
  exC := R.exC
  tyC := tyC
  hdC := R.hdC
  oany := oany
  top := top
  mgS := mgS
  sub := sub'
  clD := by
    obtain ⟨cd, hc, _⟩ := PySem.W.any_some hdD
    exact ⟨cd, hc⟩
  fn := ⟨oc, od, doc, pm, an, cda, ct, osl, qual, cc, p1, p2, p3, q1, q2, q3, q4, q4', q5, q6, q7, q8, q9, q10, q11, q12, q13, q14, vs, file, tf, ccl, cl, cdd, cld, ccs, csl, lI, cI, lA, hv, hl, hf, lB⟩
theorem hu_hot {k : Nat} {A : Around} (hk : 60 ≤ k) (hr : Room k A) : A.units + 1110 < cLine := by
  have := hr.un
  omega
theorem kit_bltn {C : Addr} {T : String} {b : Bool} (hT : PySem.W.kitMeta T = true) (h : PySem.W.subIn K (.ref C) (.type T) = some b) : PySem.W.kitOne K (.ref C) (.type T) = some b := by
  show (if (Value.ref C == Value.type T) = true then some true else if PySem.W.kitMeta T = true then PySem.W.subIn K (.ref C) (.type T) else none) = some b
  rw [if_neg (by intro q; cases (beq_iff_eq.mp q)), if_pos hT]
  exact h
end
end Mp

set_option Elab.async false
set_option linter.all false
set_option maxRecDepth 100000
set_option maxHeartbeats 2000000
/-! Mp20: the operations at data of known kinds. -/
namespace Mp
open PySem
@[simp] theorem eqF_ss {n : Bool} {a b : Str} {st : Sto} : eqF n (.str a) (.str b) st = .ok (.bl (n ^^ (a == b))) st := by
  simp [eqF, py, pyL, PyData.eqv, PyData.depth]
@[simp] theorem eqF_ii {n : Bool} {a b : Int} {st : Sto} : eqF n (.int a) (.int b) st = .ok (.bl (n ^^ (a == b))) st := by
  simp [eqF, py, pyL, PyData.eqv, PyData.depth]
@[simp] theorem eqF_si {n : Bool} {a : Str} {b : Int} {st : Sto} : eqF n (.str a) (.int b) st = .ok (.bl n) st := by
  simp [eqF, py, pyL, PyData.eqv, PyData.depth]
@[simp] theorem eqF_is {n : Bool} {a : Int} {b : Str} {st : Sto} : eqF n (.int a) (.str b) st = .ok (.bl n) st := by
  simp [eqF, py, pyL, PyData.eqv, PyData.depth]
@[simp] theorem ixF_t0 {a : D} {l : List D} {st : Sto} : ixF (.tup (a :: l)) (.int 0) st = .ok a st := by
  simp [ixF, dictAt, seqOf, L2.atI, L2.ixN]
@[simp] theorem ixF_t1 {a b : D} {l : List D} {st : Sto} : ixF (.tup (a :: b :: l)) (.int 1) st = .ok b st := by
  have h : (1 : Int) < (l.length : Int) + 1 + 1 := by omega
  simp [ixF, dictAt, seqOf, L2.atI, L2.ixN, h]
@[simp] theorem ixF_t2 {a b c : D} {l : List D} {st : Sto} : ixF (.tup (a :: b :: c :: l)) (.int 2) st = .ok c st := by
  have h : (2 : Int) < (l.length : Int) + 1 + 1 + 1 := by omega
  simp [ixF, dictAt, seqOf, L2.atI, L2.ixN, h]
theorem ixF_nat {l : List D} {st : Sto} {n : Nat} {i : Nat} {d : D} (h : st[n]? = some (.lst l)) (hd : l[i]? = some d) : ixF (.loc n) (.int i) st = .ok d st := by
  have hi : i < l.length := (List.getElem?_eq_some_iff.mp hd).1
  have e : l[i] = d := (List.getElem?_eq_some_iff.mp hd).2
  simp [ixF, dictAt, seqOf, L2.atI, L2.ixN, h, hi, e]
@[simp] theorem addF_ii {a b : Int} {st : Sto} : addF (.int a) (.int b) st = .ok (.int (a + b)) st := rfl
@[simp] theorem iaddF_ii {a b : Int} {st : Sto} : iaddF (.int a) (.int b) st = .ok (.int (a + b)) st := rfl
@[simp] theorem subF_ii {a b : Int} {st : Sto} : subF (.int a) (.int b) st = .ok (.int (a - b)) st := rfl
@[simp] theorem mulF_ii {a b : Int} {st : Sto} (h : mulC a b = true) : mulF (.int a) (.int b) st = .ok (.int (a * b)) st := by
  simp [mulF, orF, intC, h]
@[simp] theorem fdivF_ii {a b : Int} {st : Sto} (h : divC a b = true) : fdivF (.int a) (.int b) st = .ok (.int (a.fdiv b)) st := by
  simp [fdivF, intC, h]
@[simp] theorem modF_ii {a b : Int} {st : Sto} (h : b ≠ 0) : modF (.int a) (.int b) st = .ok (.int (a.fmod b)) st := by
  simp [modF, intC, h]
@[simp] theorem ltF_ii {a b : Int} {st : Sto} : ltF (.int a) (.int b) st = .ok (.bl (decide (a < b))) st := rfl
@[simp] theorem leF_ii {a b : Int} {st : Sto} : leF (.int a) (.int b) st = .ok (.bl (decide (a ≤ b))) st := rfl
@[simp] theorem gtF_ii {a b : Int} {st : Sto} : gtF (.int a) (.int b) st = .ok (.bl (decide (b < a))) st := rfl
@[simp] theorem geF_ii {a b : Int} {st : Sto} : geF (.int a) (.int b) st = .ok (.bl (decide (b ≤ a))) st := rfl
@[simp] theorem absF_i {a : Int} {st : Sto} : absF [.int a] st = .ok (.int a.natAbs) st := by
  have e : (if a < 0 then -a else a) = (a.natAbs : Int) := by split <;> omega
  show Res.ok (D.int (if a < 0 then -a else a)) st = _
  rw [e]
@[simp] theorem intF_i {a : Int} {st : Sto} : intCallF [.int a] st = .ok (.int a) st := rfl
@[simp] theorem tupleF_t {l : List D} {st : Sto} : tupleF [.tup l] st = .ok (.tup l) st := rfl
@[simp] theorem lenF_t {l : List D} {st : Sto} : lenF [.tup l] st = .ok (.int l.length) st := rfl
theorem lenF_l {l : List D} {st : Sto} {n : Nat} (h : st[n]? = some (.lst l)) : lenF [.loc n] st = .ok (.int l.length) st := by
  simp [lenF, lenD, h]
@[simp] theorem mulC_r {a b : Int} (h : -(2 ^ 64) < b ∧ b < 2 ^ 64) : mulC a b = true := by
  unfold mulC
  exact decide_eq_true (.inr h)
theorem mulC_l {a b : Int} (h : -(2 ^ 64) < a ∧ a < 2 ^ 64) : mulC a b = true := by
  unfold mulC
  exact decide_eq_true (.inl h)
theorem popF_snoc {l : List D} {d : D} {st : Sto} {n : Nat} (h : st[n]? = some (.lst (l ++ [d]))) : popF (.loc n) [] st = .ok d (st.set n (.lst l)) := by
  simp [popF, h]
theorem appF_l {l : List D} {d : D} {st : Sto} {n : Nat} (h : st[n]? = some (.lst l)) (hz : l.length < 16777216) : appF (.loc n) [d] st = .ok .non (st.set n (.lst (l ++ [d]))) := by
  simp [appF, h, sizeLine_eq, hz]
theorem iaddF_l {l m : List D} {st : Sto} {n k : Nat} (h : st[n]? = some (.lst l)) (hk : st[k]? = some (.lst m)) (hz : l.length + m.length ≤ 16777216) : iaddF (.loc n) (.loc k) st = .ok (.loc n) (st.set n (.lst (l ++ m))) := by
  simp [iaddF, orF, intF, strAdd, extF, lstOf, h, hk, szOk, sizeLine_eq, hz]
theorem whileL_succ {t : MT} {b : MS} {F : Nat} {e : Slots} {st : Sto} : whileL t b (F + 1) e st = (t e st).sr e fun c s1 => if c then match b e s1 with
      | .nx e2 s2 => whileL t b F e2 s2
      | .ct e2 s2 => whileL t b F e2 s2
      | .bk e2 s2 => .nx e2 s2
      | r => r
    else .nx e s1 := rfl
/-- one more turn -/
theorem whileL_nx {t : MT} {b : MS} {F : Nat} {e e2 : Slots} {st s1 s2 : Sto} (h : t e st = .ok true s1) (hb : b e s1 = .nx e2 s2) : whileL t b (F + 1) e st = whileL t b F e2 s2 := by
  rw [whileL_succ, h]
  simp [Res.sr, hb]
theorem whileL_ct {t : MT} {b : MS} {F : Nat} {e e2 : Slots} {st s1 s2 : Sto} (h : t e st = .ok true s1) (hb : b e s1 = .ct e2 s2) : whileL t b (F + 1) e st = whileL t b F e2 s2 := by
  rw [whileL_succ, h]
  simp [Res.sr, hb]
theorem whileL_exc {t : MT} {b : MS} {F : Nat} {e e2 : Slots} {st s1 s2 : Sto} {x : Ex} (h : t e st = .ok true s1) (hb : b e s1 = .exc x e2 s2) : whileL t b (F + 1) e st = .exc x e2 s2 := by
  rw [whileL_succ, h]
  simp [Res.sr, hb]
theorem whileL_end {t : MT} {b : MS} {F : Nat} {e : Slots} {st s1 : Sto} (h : t e st = .ok false s1) : whileL t b (F + 1) e st = .nx e s1 := by
  rw [whileL_succ, h]
  simp [Res.sr]
/-- a loop that goes through to its end, by an invariant -/
theorem forL_inv {nx : Nxt} {g : MG} {b : MS} {n : Nat} (Inv : Nat → Slots → Sto → Prop) (hend : ∀ e st, Inv n e st → nx n st = some none)
    (hgo : ∀ i e st, i < n → Inv i e st → ∃ d e1, nx i st = some (some d) ∧ g d e = some e1 ∧ ∃ e2 s2, (b e1 st = .nx e2 s2 ∨ b e1 st = .ct e2 s2) ∧ Inv (i + 1) e2 s2) :
    ∀ (f i : Nat) (e : Slots) (st : Sto), f + i = n → Inv i e st → ∃ e' s', forL nx g b f i e st = .nx e' s' ∧ Inv n e' s'
  | 0, i, e, st, h, hi => by
    obtain rfl : i = n := by omega
    refine ⟨e, st, ?_, hi⟩
    show (match nx i st with
      | some none => SR.nx e st
      | _ => .bad) = _
    rw [hend e st hi]
  | f + 1, i, e, st, h, hi => by
    obtain ⟨d, e1, h1, h2, e2, s2, h3, h4⟩ := hgo i e st (by omega) hi
    obtain ⟨e', s', h5, h6⟩ := forL_inv Inv hend hgo f (i + 1) e2 s2 (by omega) h4
    refine ⟨e', s', ?_, h6⟩
    unfold forL
    rw [h1]
    dsimp only
    rw [h2]
    dsimp only
    rcases h3 with h3 | h3
    · rw [h3]
      exact h5
    · rw [h3]
      exact h5
theorem sFor_inv {m : MI} {g : MG} {b : MS} {e : Slots} {st s1 : Sto} {n : Nat} {nx : Nxt} (hm : m e st = .ok (n, nx) s1) (Inv : Nat → Slots → Sto → Prop) (h0 : Inv 0 e s1) (hend : ∀ e st, Inv n e st → nx n st = some none)
    (hgo : ∀ i e st, i < n → Inv i e st → ∃ d e1, nx i st = some (some d) ∧ g d e = some e1 ∧ ∃ e2 s2, (b e1 st = .nx e2 s2 ∨ b e1 st = .ct e2 s2) ∧ Inv (i + 1) e2 s2) : ∃ e' s', sFor m g b e st = .nx e' s' ∧ Inv n e' s' := by
  obtain ⟨e', s', h1, h2⟩ := forL_inv Inv hend hgo n 0 e s1 (by omega) h0
  refine ⟨e', s', ?_, h2⟩
  unfold sFor
  rw [hm]
  exact h1
theorem rgs_lt {lo : Int} {n i : Nat} {st : Sto} (h : i < n) : rgs lo n i st = some (some (.int (lo + i))) := by
  unfold rgs
  rw [if_pos h]
theorem rgs_end {lo : Int} {n : Nat} {st : Sto} : rgs lo n n st = some none := by
  unfold rgs
  rw [if_neg (Nat.lt_irrefl _)]
theorem sSeq_nx {a b : MS} {e e2 : Slots} {st s2 : Sto} (h : a e st = .nx e2 s2) : sSeq a b e st = b e2 s2 := by
  unfold sSeq
  rw [h]
theorem sIf_t {t : MT} {a b : MS} {e : Slots} {st s1 : Sto} (h : t e st = .ok true s1) : sIf t a b e st = a e s1 := by
  unfold sIf
  rw [h]
  rfl
theorem sIf_f {t : MT} {a b : MS} {e : Slots} {st s1 : Sto} (h : t e st = .ok false s1) : sIf t a b e st = b e s1 := by
  unfold sIf
  rw [h]
  rfl
theorem sSeq_one {a : MS} {e : Slots} {st : Sto} : sSeq a sSkip e st = a e st := by
  unfold sSeq sSkip
  cases a e st <;> rfl
theorem sTryAs_exc {sel : Nat → Option Bool} {i : Nat} {b : MS} {h : Ex → MS} {e e' : Slots} {st st' : Sto} {x : Ex} (hb : b e st = .exc x e' st') : sTryAs sel i b h e st = match sel x.c with
    | some true => if i < e'.length then (h x (e'.set i none) st').off i else .bad
    | some false => .exc x e' st'
    | none => .bad := by
  unfold sTryAs
  rw [hb] <;> rfl
theorem sTryH_exc {l : List Cl} {b : MS} {e e' : Slots} {st st' : Sto} {x : Ex} (hb : b e st = .exc x e' st') : sTryH l b e st = pickH l x e' st' := by
  unfold sTryH
  rw [hb]
theorem sIf_skip {t : MT} {a : MS} {e : Slots} {st s1 : Sto} (h : t e st = .ok false s1) : sIf t a sSkip e st = .nx e s1 := sIf_f h
theorem mB_of {m : M} {e : Slots} {st s1 : Sto} {b : Bool} (h : m e st = .ok (.bl b) s1) : mB m e st = .ok b s1 := by
  unfold mB
  rw [h]
  rfl
theorem ints_nl : ∀ l : List Int, noLocs (l.map D.int) = true
  | [] => rfl
  | i :: l => by
    show (noLoc (.int i) && noLocs (l.map D.int)) = true
    rw [ints_nl l]
    rfl
/-! ### calls over the objects handed alone -/
theorem callN_nl {f : FS} {ds : List D} {st : Sto} {d : D} (h : noLocs ds = true) (e : f ds [] = .ok d []) (hd : noLoc d = true) : callN f ds st = .ok d st := by
  have norm : ∀ l : List D, noLocs l = true → normA st l [] = some (l, []) := fun l => by
    induction l with
    | nil => intro _; rfl
    | cons a l ih =>
      intro h
      simp only [noLocs, Bool.and_eq_true] at h
      cases a with
      | loc n => exact absurd h.1 (by simp [noLoc])
      | _ => simp [normA, h.1, ih h.2]
  have e0 : subSto st [] = [] := rfl
  unfold callN
  rw [norm ds h]
  simp only [e0, e, putBack]
  cases d with
  | loc n => exact absurd hd (by simp [noLoc])
  | _ => simp [hd]
theorem callN_nlx {f : FS} {ds : List D} {st : Sto} {x : Ex} (h : noLocs ds = true) (e : f ds [] = .exc x []) (hd : (x.fs.all fun p => noLoc p.2) = true) : callN f ds st = .exc x st := by
  have norm : ∀ l : List D, noLocs l = true → normA st l [] = some (l, []) := fun l => by
    induction l with
    | nil => intro _; rfl
    | cons a l ih =>
      intro h
      simp only [noLocs, Bool.and_eq_true] at h
      cases a with
      | loc n => exact absurd h.1 (by simp [noLoc])
      | _ => simp [normA, h.1, ih h.2]
  have e0 : subSto st [] = [] := rfl
  unfold callN
  rw [norm ds h]
  simp only [e0, e, putBack, hd, if_true]
/-- f(t, o): o the object n, t without objects -/
theorem callN_tl {f : FS} {t : D} {n : Nat} {st : Sto} {o o' : Ob} {d : D} (ht : noLoc t = true) (hn : st[n]? = some o) (ho : flat o = true) (e : f [t, .loc 0] [o] = .ok d [o']) (ho' : flat o' = true) (hd : noLoc d = true) : callN f [t, .loc n] st = .ok d (st.set n o') := by
  have norm : normA st [t, .loc n] [] = some ([t, .loc 0], [n]) := by
    cases t with
    | loc n => exact absurd ht (by simp [noLoc])
    | _ => simp [normA, ht, hn, ho, addN, place]
  have e0 : subSto st [n] = [o] := by simp [subSto, hn]
  unfold callN
  rw [norm]
  simp only [e0, e, putBack, ho', if_true]
  cases d with
  | loc n => exact absurd hd (by simp [noLoc])
  | _ => simp [hd]
theorem callN_tlx {f : FS} {t : D} {n : Nat} {st : Sto} {o o' : Ob} {x : Ex} (ht : noLoc t = true) (hn : st[n]? = some o) (ho : flat o = true) (e : f [t, .loc 0] [o] = .exc x [o']) (ho' : flat o' = true) (hd : (x.fs.all fun p => noLoc p.2) = true) : callN f [t, .loc n] st = .exc x (st.set n o') := by
  have norm : normA st [t, .loc n] [] = some ([t, .loc 0], [n]) := by
    cases t with
    | loc n => exact absurd ht (by simp [noLoc])
    | _ => simp [normA, ht, hn, ho, addN, place]
  have e0 : subSto st [n] = [o] := by simp [subSto, hn]
  unfold callN
  rw [norm]
  simp only [e0, e, putBack, ho', hd, if_true]
theorem set_same {α : Type} {l : List α} {n : Nat} {a : α} (h : l[n]? = some a) : l.set n a = l := by
  apply List.ext_getElem?
  intro i
  by_cases hi : i = n
  · subst hi
    rw [List.getElem?_set_self (List.getElem?_eq_some_iff.mp h).1, h]
  · rw [List.getElem?_set_ne (Ne.symm hi)]
theorem normA_nl {st : Sto} : ∀ l : List D, noLocs l = true → normA st l [] = some (l, [])
  | [], _ => rfl
  | a :: l, h => by
    simp only [noLocs, Bool.and_eq_true] at h
    cases a with
    | loc n => exact absurd h.1 (by simp [noLoc])
    | _ => simp [normA, h.1, normA_nl l h.2]
/-- a callee that makes a new flat object -/
theorem callN_new {f : FS} {ds : List D} {st : Sto} {o : Ob} (h : noLocs ds = true) (e : f ds [] = .ok (.loc 0) [o]) (ho : flat o = true) : callN f ds st = .ok (.loc st.length) (st ++ [o]) := by
  have e0 : subSto st [] = [] := rfl
  unfold callN
  rw [normA_nl ds h]
  simp [e0, e, putBack, ho]
/-- a comprehension whose parts change nothing -/
theorem lcL_pure {nx : Nxt} {g : MG} {m : M} {e : Slots} {n : Nat} {st : Sto} (f h : Nat → D) (hn : ∀ i s, i < n → nx i s = some (some (f i))) (he : ∀ s, nx n s = some none) (hm : ∀ i, i < n → ∃ e1, g (f i) e = some e1 ∧ ∀ s, m e1 s = .ok (h i) s) (hz : n < 16000000) :
    ∀ (fu i : Nat) (acc : List D), fu + i = n → acc.length = i → lcL nx g mtYes m st.length fu i e (st ++ [.lst acc]) = .ok () (st ++ [.lst (acc ++ (List.range' i fu).map h)])
  | 0, i, acc, hi, ha => by
    obtain rfl : i = n := by omega
    show (match nx i (st ++ [.lst acc]) with
      | some none => Res.ok () (st ++ [Ob.lst acc])
      | _ => .bad) = _
    rw [he]
    simp
  | fu + 1, i, acc, hi, ha => by
    obtain ⟨e1, h1, h2⟩ := hm i (by omega)
    have ih := lcL_pure (st := st) f h hn he hm hz fu (i + 1) (acc ++ [h i]) (by omega) (by simp [ha])
    have hs : (st ++ [Ob.lst acc]).set st.length (Ob.lst (acc ++ [h i])) = st ++ [Ob.lst (acc ++ [h i])] := by simp
    have hg : (st ++ [Ob.lst acc])[st.length]? = some (Ob.lst acc) := by simp
    have hl : acc.length < sizeLine := by rw [sizeLine_eq]; omega
    unfold lcL
    rw [hn i _ (by omega)]
    dsimp only
    rw [h1]
    simp only [mtYes, noX, Res.bind, if_true, h2, hg, hl, hs]
    rw [ih]
    simp [List.range'_succ]
theorem mLC_pure {mi : MI} {nx : Nxt} {g : MG} {m : M} {e : Slots} {n : Nat} {st s1 : Sto} {own : List Nat} (f h : Nat → D) (h0 : mi e st = .ok (n, nx) s1) (hn : ∀ i s, i < n → nx i s = some (some (f i))) (he : ∀ s, nx n s = some none)
    (hm : ∀ i, i < n → ∃ e1, g (f i) (wipeD e own) = some e1 ∧ ∀ s, m e1 s = .ok (h i) s) (hz : n < 16000000) : mLC mi g mtYes m own e st = .ok (.loc s1.length) (s1 ++ [.lst ((List.range n).map h)]) := by
  have := lcL_pure (st := s1) f h hn he hm hz n 0 [] (by omega) rfl
  unfold mLC
  rw [h0]
  simp only [Res.bind]
  rw [this]
  simp [List.range_eq_range']
/-! ### what repr shows -/
theorem int_show {i : Int} (h : i.natAbs < 10 ^ 12) : PyData.intsShort 13 (.int i) = true ∧ PyData.showable (.int i) = true := by
  constructor
  · have q := PyData.intsShortAll_ints [i] (fun n hn => by
      rw [List.mem_singleton] at hn
      rw [hn]
      exact h)
    simpa [PyData.intsShortAll] using q
  · unfold PyData.showable
    refine decide_eq_true ?_
    by_cases h0 : i.natAbs = 0
    · rw [h0]
      decide
    · rw [Nat.log2_lt h0]
      exact Nat.lt_of_lt_of_le h (Nat.le_trans (by decide : 10 ^ 12 ≤ 2 ^ 40) (Nat.pow_le_pow_right (by decide) (by decide)))
mutual
theorem sameP_self : ∀ d : PyData, d.hasDict = false → sameP d d = true
  | .none, _ => rfl
  | .bool b, _ => by simp [sameP]
  | .int i, _ => by simp [sameP]
  | .str s, _ => by simp [sameP]
  | .list l, h => by
    unfold sameP
    exact samePs_self l (by simpa [PyData.hasDict] using h)
  | .tuple l, h => by
    unfold sameP
    exact samePs_self l (by simpa [PyData.hasDict] using h)
  | .dict kvs, h => by simp [PyData.hasDict] at h
theorem samePs_self : ∀ l : List PyData, PyData.hasDictAll l = false → samePs l l = true
  | [], _ => rfl
  | d :: l, h => by
    simp only [PyData.hasDictAll, Bool.or_eq_false_iff] at h
    unfold samePs
    rw [sameP_self d h.1, samePs_self l h.2]
    rfl
end
theorem okShow_mk {d : PyData} (h1 : d.canLay0 = true) (h2 : d.depth ≤ 64) (h3 : d.weight ≤ 2 ^ 20) (h4 : d.intsShort 13 = true) (h5 : d.showable = true) (h6 : d.hasDict = false) : okShow d = true := by
  unfold okShow PyData.layable0
  rw [h1, decide_eq_true h2, decide_eq_true h3, h4, h5, h6]
  rfl
theorem int_w {i : Int} (h : PyData.showable (.int i) = true) : PyData.weight (.int i) ≤ 2000 := by
  have h := of_decide_eq_true h
  unfold PyData.weight
  split <;> omega
theorem mReprEq_same {neg : Bool} {ma mb : M} {e : Slots} {st s1 s2 : Sto} {x : D} {a : PyData} (h1 : ma e st = .ok x s1) (h2 : mb e s1 = .ok x s2) (hp : ∀ st, pyd st x = some a) (ok : okShow a = true) : mReprEq neg ma mb e st = .ok (.bl (neg ^^ true)) s2 := by
  have hd : a.hasDict = false := by
    unfold okShow at ok
    simp only [Bool.and_eq_true, Bool.not_eq_true'] at ok
    exact ok.2.2.2
  unfold mReprEq
  rw [h1]
  simp only [Res.bind]
  rw [hp s1]
  simp only [ok, if_true, h2, hp s2, sameP_self a hd, Bool.and_self]
end Mp

set_option Elab.async false
set_option linter.all false
set_option maxRecDepth 100000
set_option maxHeartbeats 4000000
namespace K00
open PySem PySem.Spec PyProof.Rows L2 Mp
abbrev prg : Program := PySem.Challenge.pw_answersinturn_k00_errors_and_limits
def top (i : Nat) : Stmt := prg.main.body.getD i (.Pass ⟨0, 0, 0, 0⟩)
abbrev st__law_draws : Stmt := top 24
abbrev st__law_more : Stmt := top 25
abbrev st__law_take : Stmt := top 26
abbrev st__law_one : Stmt := top 27
abbrev st__law_limits_right : Stmt := top 28
abbrev st__law_raise : Stmt := top 29
abbrev st__law_kinds : Stmt := top 30
abbrev st__law_caught : Stmt := top 31
abbrev st__law_fields : Stmt := top 32
abbrev st_law : Stmt := top 33
def bigF : Nat := 1000000
structure Ad where
  f : Nat → Addr
  d : Nat → FuncData
  ca : Nat → Addr
  D : Nat → Addr
  fI : Nat → Addr
abbrev Gm (K : PySem.W.Frag) (z : Ad) : Cfg := ⟨K, fun _ => .non, z.ca, none⟩
def rd_at : Nat → Bool := fun n => match n with
  | 0 => false
  | 1 => false
  | 2 => false
  | 3 => false
  | 4 => true
  | 5 => false
  | 6 => false
  | _ => false
def rd_line : Nat → Bool := fun n => match n with
  | 0 => false
  | 1 => false
  | 2 => false
  | 3 => false
  | 4 => false
  | 5 => false
  | 6 => true
  | _ => false
def rd_number : Nat → Bool := fun n => match n with
  | 0 => false
  | 1 => false
  | 2 => false
  | 3 => false
  | 4 => false
  | 5 => true
  | 6 => false
  | _ => false
def rd_reason : Nat → Bool := fun n => match n with
  | 0 => true
  | 1 => true
  | 2 => true
  | 3 => true
  | 4 => false
  | 5 => true
  | 6 => false
  | _ => false
def is_ArgumentError : Nat → Option Bool := fun n => match n with
  | 0 => some true
  | 1 => some false
  | 2 => some false
  | 3 => some false
  | 4 => some false
  | 5 => some false
  | 6 => some false
  | _ => none
def is_CheckError : Nat → Option Bool := fun n => match n with
  | 0 => some false
  | 1 => some false
  | 2 => some false
  | 3 => some true
  | 4 => some false
  | 5 => some false
  | 6 => some false
  | _ => none
def is_CommandError : Nat → Option Bool := fun n => match n with
  | 0 => some false
  | 1 => some false
  | 2 => some false
  | 3 => some false
  | 4 => some false
  | 5 => some false
  | 6 => some true
  | _ => none
def is_LogError : Nat → Option Bool := fun n => match n with
  | 0 => some false
  | 1 => some false
  | 2 => some false
  | 3 => some false
  | 4 => some false
  | 5 => some true
  | 6 => some false
  | _ => none
def is_PaperError : Nat → Option Bool := fun n => match n with
  | 0 => some false
  | 1 => some true
  | 2 => some false
  | 3 => some false
  | 4 => some false
  | 5 => some false
  | 6 => some false
  | _ => none
def is_TextError : Nat → Option Bool := fun n => match n with
  | 0 => some false
  | 1 => some false
  | 2 => some false
  | 3 => some false
  | 4 => some true
  | 5 => some false
  | 6 => some false
  | _ => none
def is_TooMany : Nat → Option Bool := fun n => match n with
  | 0 => some false
  | 1 => some false
  | 2 => some true
  | 3 => some false
  | 4 => some false
  | 5 => some false
  | 6 => some false
  | _ => none
def is_ValueError : Nat → Option Bool := fun n => match n with
  | 0 => some true
  | 1 => some true
  | 2 => some true
  | 3 => some true
  | 4 => some true
  | 5 => some true
  | 6 => some true
  | _ => none
def sel_ArgumentError : Nat → Option Bool := fun n => match n with
  | 0 => some true
  | 1 => some false
  | 2 => some false
  | 3 => some false
  | 4 => some false
  | 5 => some false
  | 6 => some false
  | _ => none
def sel_CheckError : Nat → Option Bool := fun n => match n with
  | 0 => some false
  | 1 => some false
  | 2 => some false
  | 3 => some true
  | 4 => some false
  | 5 => some false
  | 6 => some false
  | _ => none
def sel_ClauseError : Nat → Option Bool := fun n => match n with
  | 0 => some true
  | 1 => some true
  | 2 => some true
  | 3 => some true
  | 4 => some true
  | 5 => some true
  | 6 => some true
  | _ => none
def sel_CommandError : Nat → Option Bool := fun n => match n with
  | 0 => some false
  | 1 => some false
  | 2 => some false
  | 3 => some false
  | 4 => some false
  | 5 => some false
  | 6 => some true
  | _ => none
def sel_LogError : Nat → Option Bool := fun n => match n with
  | 0 => some false
  | 1 => some false
  | 2 => some false
  | 3 => some false
  | 4 => some false
  | 5 => some true
  | 6 => some false
  | _ => none
def sel_PaperError : Nat → Option Bool := fun n => match n with
  | 0 => some false
  | 1 => some true
  | 2 => some false
  | 3 => some false
  | 4 => some false
  | 5 => some false
  | 6 => some false
  | _ => none
def sel_TextError : Nat → Option Bool := fun n => match n with
  | 0 => some false
  | 1 => some false
  | 2 => some false
  | 3 => some false
  | 4 => some true
  | 5 => some false
  | 6 => some false
  | _ => none
def sel_TooMany : Nat → Option Bool := fun n => match n with
  | 0 => some false
  | 1 => some false
  | 2 => some true
  | 3 => some false
  | 4 => some false
  | 5 => some false
  | 6 => some false
  | _ => none
def g_MAX_ANSWERS : D := .int 200
def g_MAX_ARGUMENTS : D := .int 8
def g_MAX_CELLS : D := .int 30000
def g_MAX_CLAUSES : D := .int 80
def g_MAX_EVENTS : D := .int 2000
def g_MAX_LINES : D := .int 200
def g_MAX_NAME : D := .int 16
def g_MAX_NUMBER : D := .int 1000000
def g_MAX_SIZE : D := .int 300
def g_MAX_STEPS : D := .int 4000
def g_MAX_TABLE : D := .int 400
def g_MAX_TEXT : D := .int 8000
def g_MAX_WORK : D := .int 400000
structure Txt (K : PySem.W.Frag) (mg : Str → Option Value) (z : Ad) : Prop where
  fn__law_draws : Fun K "_law_draws" "_law_draws" st__law_draws (z.f 0) (z.d 0)
  m__law_draws : mg "_law_draws" = some (.ref (z.f 0))
  k__law_draws : PySem.W.keepIn K (.ref (z.f 0)) = true
  b__law_draws : Binds K (z.d 0) ["script"] []
  fn__law_more : Fun K "_law_more" "_law_more" st__law_more (z.f 1) (z.d 1)
  m__law_more : mg "_law_more" = some (.ref (z.f 1))
  k__law_more : PySem.W.keepIn K (.ref (z.f 1)) = true
  b__law_more : Binds K (z.d 1) ["draws", "place"] []
  fn__law_take : Fun K "_law_take" "_law_take" st__law_take (z.f 2) (z.d 2)
  m__law_take : mg "_law_take" = some (.ref (z.f 2))
  k__law_take : PySem.W.keepIn K (.ref (z.f 2)) = true
  b__law_take : Binds K (z.d 2) ["draws", "at", "many"] []
  fn__law_one : Fun K "_law_one" "_law_one" st__law_one (z.f 3) (z.d 3)
  m__law_one : mg "_law_one" = some (.ref (z.f 3))
  k__law_one : PySem.W.keepIn K (.ref (z.f 3)) = true
  b__law_one : Binds K (z.d 3) ["rows", "draws", "at"] []
  fn__law_limits_right : Fun K "_law_limits_right" "_law_limits_right" st__law_limits_right (z.f 4) (z.d 4)
  m__law_limits_right : mg "_law_limits_right" = some (.ref (z.f 4))
  k__law_limits_right : PySem.W.keepIn K (.ref (z.f 4)) = true
  b__law_limits_right : Binds K (z.d 4) [] []
  fn__law_raise : Fun K "_law_raise" "_law_raise" st__law_raise (z.f 5) (z.d 5)
  m__law_raise : mg "_law_raise" = some (.ref (z.f 5))
  k__law_raise : PySem.W.keepIn K (.ref (z.f 5)) = true
  b__law_raise : Binds K (z.d 5) ["k", "one", "other"] []
  fn__law_kinds : Fun K "_law_kinds" "_law_kinds" st__law_kinds (z.f 6) (z.d 6)
  m__law_kinds : mg "_law_kinds" = some (.ref (z.f 6))
  k__law_kinds : PySem.W.keepIn K (.ref (z.f 6)) = true
  b__law_kinds : Binds K (z.d 6) ["e"] []
  fn__law_caught : Fun K "_law_caught" "_law_caught" st__law_caught (z.f 7) (z.d 7)
  m__law_caught : mg "_law_caught" = some (.ref (z.f 7))
  k__law_caught : PySem.W.keepIn K (.ref (z.f 7)) = true
  b__law_caught : Binds K (z.d 7) ["k", "one", "other"] []
  fn__law_fields : Fun K "_law_fields" "_law_fields" st__law_fields (z.f 8) (z.d 8)
  m__law_fields : mg "_law_fields" = some (.ref (z.f 8))
  k__law_fields : PySem.W.keepIn K (.ref (z.f 8)) = true
  b__law_fields : Binds K (z.d 8) ["k", "one", "other"] []
  fn_law : Fun K "law" "law" st_law (z.f 9) (z.d 9)
  m_law : mg "law" = some (.ref (z.f 9))
  k_law : PySem.W.keepIn K (.ref (z.f 9)) = true
  b_law : Binds K (z.d 9) ["script"] []
  n_ValueError : mg "ValueError" = none
  n_abs : mg "abs" = none
  n_int : mg "int" = none
  n_isinstance : mg "isinstance" = none
  n_len : mg "len" = none
  n_range : mg "range" = none
  n_repr : mg "repr" = none
  g_MAX_ANSWERS : GlobIs K mg "MAX_ANSWERS" g_MAX_ANSWERS
  g_MAX_ARGUMENTS : GlobIs K mg "MAX_ARGUMENTS" g_MAX_ARGUMENTS
  g_MAX_CELLS : GlobIs K mg "MAX_CELLS" g_MAX_CELLS
  g_MAX_CLAUSES : GlobIs K mg "MAX_CLAUSES" g_MAX_CLAUSES
  g_MAX_EVENTS : GlobIs K mg "MAX_EVENTS" g_MAX_EVENTS
  g_MAX_LINES : GlobIs K mg "MAX_LINES" g_MAX_LINES
  g_MAX_NAME : GlobIs K mg "MAX_NAME" g_MAX_NAME
  g_MAX_NUMBER : GlobIs K mg "MAX_NUMBER" g_MAX_NUMBER
  g_MAX_SIZE : GlobIs K mg "MAX_SIZE" g_MAX_SIZE
  g_MAX_STEPS : GlobIs K mg "MAX_STEPS" g_MAX_STEPS
  g_MAX_TABLE : GlobIs K mg "MAX_TABLE" g_MAX_TABLE
  g_MAX_TEXT : GlobIs K mg "MAX_TEXT" g_MAX_TEXT
  g_MAX_WORK : GlobIs K mg "MAX_WORK" g_MAX_WORK
  r_ArgumentError : XTxt prg K mg (z.ca 0) (z.D 0) (z.fI 0) "reason"
  r_PaperError : XTxt prg K mg (z.ca 1) (z.D 1) (z.fI 1) "reason"
  r_TooMany : XTxt prg K mg (z.ca 2) (z.D 2) (z.fI 2) "reason"
  r_CheckError : XTxt prg K mg (z.ca 3) (z.D 3) (z.fI 3) "reason"
  r_TextError : XTxt prg K mg (z.ca 4) (z.D 4) (z.fI 4) "at"
  r_LogError : XTxt2 prg K mg (z.ca 5) (z.D 5) (z.fI 5)
  r_CommandError : XTxt prg K mg (z.ca 6) (z.D 6) (z.fI 6) "line"
  c_ArgumentError : mg "ArgumentError" = some (.ref (z.ca 0))
  c_PaperError : mg "PaperError" = some (.ref (z.ca 1))
  c_TooMany : mg "TooMany" = some (.ref (z.ca 2))
  c_CheckError : mg "CheckError" = some (.ref (z.ca 3))
  c_TextError : mg "TextError" = some (.ref (z.ca 4))
  c_LogError : mg "LogError" = some (.ref (z.ca 5))
  c_CommandError : mg "CommandError" = some (.ref (z.ca 6))
  c_ClauseError : mg "ClauseError" = some (.ref (z.ca 100))
  x_at : ∀ c, rd_at c = true → XRd K (z.ca c) "at"
  x_line : ∀ c, rd_line c = true → XRd K (z.ca c) "line"
  x_number : ∀ c, rd_number c = true → XRd K (z.ca c) "number"
  x_reason : ∀ c, rd_reason c = true → XRd K (z.ca c) "reason"
  i_ArgumentError : ∀ c b, is_ArgumentError c = some b → ExcC K (z.ca c) ∧ PySem.W.kitOne K (.ref (z.ca c)) (.ref (z.ca 0)) = some b
  i_CheckError : ∀ c b, is_CheckError c = some b → ExcC K (z.ca c) ∧ PySem.W.kitOne K (.ref (z.ca c)) (.ref (z.ca 3)) = some b
  i_CommandError : ∀ c b, is_CommandError c = some b → ExcC K (z.ca c) ∧ PySem.W.kitOne K (.ref (z.ca c)) (.ref (z.ca 6)) = some b
  i_LogError : ∀ c b, is_LogError c = some b → ExcC K (z.ca c) ∧ PySem.W.kitOne K (.ref (z.ca c)) (.ref (z.ca 5)) = some b
  i_PaperError : ∀ c b, is_PaperError c = some b → ExcC K (z.ca c) ∧ PySem.W.kitOne K (.ref (z.ca c)) (.ref (z.ca 1)) = some b
  i_TextError : ∀ c b, is_TextError c = some b → ExcC K (z.ca c) ∧ PySem.W.kitOne K (.ref (z.ca c)) (.ref (z.ca 4)) = some b
  i_TooMany : ∀ c b, is_TooMany c = some b → ExcC K (z.ca c) ∧ PySem.W.kitOne K (.ref (z.ca c)) (.ref (z.ca 2)) = some b
  i_ValueError : ∀ c b, is_ValueError c = some b → ExcC K (z.ca c) ∧ PySem.W.kitOne K (.ref (z.ca c)) (.type "ValueError") = some b
  s_ArgumentError : ∀ c b, sel_ArgumentError c = some b → PySem.W.exmOne K (.ref (z.ca c)) (.ref (z.ca 0)) = some b
  s_CheckError : ∀ c b, sel_CheckError c = some b → PySem.W.exmOne K (.ref (z.ca c)) (.ref (z.ca 3)) = some b
  s_ClauseError : ∀ c b, sel_ClauseError c = some b → PySem.W.exmOne K (.ref (z.ca c)) (.ref (z.ca 100)) = some b
  s_CommandError : ∀ c b, sel_CommandError c = some b → PySem.W.exmOne K (.ref (z.ca c)) (.ref (z.ca 6)) = some b
  s_LogError : ∀ c b, sel_LogError c = some b → PySem.W.exmOne K (.ref (z.ca c)) (.ref (z.ca 5)) = some b
  s_PaperError : ∀ c b, sel_PaperError c = some b → PySem.W.exmOne K (.ref (z.ca c)) (.ref (z.ca 1)) = some b
  s_TextError : ∀ c b, sel_TextError c = some b → PySem.W.exmOne K (.ref (z.ca c)) (.ref (z.ca 4)) = some b
  s_TooMany : ∀ c b, sel_TooMany c = some b → PySem.W.exmOne K (.ref (z.ca c)) (.ref (z.ca 2)) = some b
structure All (w : World) (K : PySem.W.Frag) (mg : Str → Option Value) (base : Heap) (z : Ad) (k : Nat) (S : Nat → FS) : Prop where
  g__law_draws : FnG prg w K mg base k (z.f 0) (z.d 0) ["script"] (spOf (Gm K z) (S 0))
  g__law_more : FnG prg w K mg base k (z.f 1) (z.d 1) ["draws", "place"] (spOf (Gm K z) (S 1))
  g__law_take : FnG prg w K mg base k (z.f 2) (z.d 2) ["draws", "at", "many"] (spOf (Gm K z) (S 2))
  g__law_one : FnG prg w K mg base k (z.f 3) (z.d 3) ["rows", "draws", "at"] (spOf (Gm K z) (S 3))
  g__law_limits_right : FnG prg w K mg base k (z.f 4) (z.d 4) [] (spOf (Gm K z) (S 4))
  g__law_raise : FnG prg w K mg base k (z.f 5) (z.d 5) ["k", "one", "other"] (spOf (Gm K z) (S 5))
  g__law_caught : FnG prg w K mg base k (z.f 7) (z.d 7) ["k", "one", "other"] (spOf (Gm K z) (S 7))
  g__law_fields : FnG prg w K mg base k (z.f 8) (z.d 8) ["k", "one", "other"] (spOf (Gm K z) (S 8))
  g_law : FnG prg w K mg base k (z.f 9) (z.d 9) ["script"] (spOf (Gm K z) (S 9))
def B__law_kinds (x : Ex) : MS :=
  (sSeq (sAsg (mLst (mCons (mXis is_ArgumentError x) (mCons (mXis is_PaperError x) (mCons (mXis is_TooMany x) (mCons (mXis is_CheckError x) mNil))))) (gN 1))
  (sSeq (sRet (m2 addF (mVar 1) (mLst (mCons (mXis is_TextError x) (mCons (mXis is_LogError x) (mCons (mXis is_CommandError x) mNil))))))
  sSkip))
theorem sc__law_kinds : FnScope ["e", "plain"] ["e"] (defScope st__law_kinds) := ⟨rfl, rfl, rfl, by decide +kernel, rfl, by decide +kernel, by decide +kernel⟩
theorem hot__law_kinds {w : World} {K : PySem.W.Frag} {mg : Str → Option Value} {base : Heap} {z : Ad} (T : Txt K mg z) {f a d : Addr} {cdv : Value} {A : Around} {outer : List PySem.Env} {s : Shared} {H : Hp} {E : XK} {oe : Obj} {x : Ex} (hz : Zc (.ref ((Gm K z).ca x.c)) (some d) oe) (hf : ∃ vs, oe.data = .fields vs) (hu : A.units + 1100 < cLine) :
    PSs (hotX prg w K mg base ["e", "plain"] "_law_kinds" st__law_kinds f cdv A outer s H E (a, oe)) (defBody st__law_kinds) (dS ((Gm K z).with ⟨0, a, d, x⟩) Wno (B__law_kinds x)) := by
  exact (ss_cons (s_asg (m_lst (ma_cons (m_isP List.mem_cons_self rfl hz hf T.i_ArgumentError rfl T.n_isinstance (tgt_own rfl T.c_ArgumentError (by decide)) rfl (Or.inl rfl) (by decide) (by decide)) (ma_cons (m_isP List.mem_cons_self rfl hz hf T.i_PaperError rfl T.n_isinstance (tgt_own rfl T.c_PaperError (by decide)) rfl (Or.inl rfl) (by decide) (by decide)) (ma_cons (m_isP List.mem_cons_self rfl hz hf T.i_TooMany rfl T.n_isinstance (tgt_own rfl T.c_TooMany (by decide)) rfl (Or.inl rfl) (by decide) (by decide)) (ma_cons (m_isP List.mem_cons_self rfl hz hf T.i_CheckError rfl T.n_isinstance (tgt_own rfl T.c_CheckError (by decide)) rfl (Or.inl rfl) (by decide) (by decide)) ma_nil))))) (g_name (fun q hq => by cases hq; exact (by decide : ¬ (0 : Nat) = 1)) sc__law_kinds.nd rfl (Or.inl rfl) (Or.inl rfl)))
  (ss_cons (s_ret (m_op op_addA od_add (m_var 1) (m_lst (ma_cons (m_isP List.mem_cons_self rfl hz hf T.i_TextError rfl T.n_isinstance (tgt_own rfl T.c_TextError (by decide)) rfl (Or.inl rfl) (by decide) (by decide)) (ma_cons (m_isP List.mem_cons_self rfl hz hf T.i_LogError rfl T.n_isinstance (tgt_own rfl T.c_LogError (by decide)) rfl (Or.inl rfl) (by decide) (by decide)) (ma_cons (m_isP List.mem_cons_self rfl hz hf T.i_CommandError rfl T.n_isinstance (tgt_own rfl T.c_CommandError (by decide)) rfl (Or.inl rfl) (by decide) (by decide)) ma_nil))))))
  ss_nil))
def W__law_draws_0 (S : Nat → FS) : MS :=
  (sSeq (sIf (mB (m2 gtF (mVar 3) (mLit (.int 0)))) (sSeq (sExpr (mMeth isL appF (mVar 1) (mCons (m2 modF (mCall intCallF (mCons (mVar 3) mNil)) (mLit (.int 1009))) mNil)))
  (sSeq (sAsg (m2 fdivF (mVar 3) (mLit (.int 1009))) (gN 3))
  sSkip)) sSkip)
  sSkip)
def W__law_draws_1 (S : Nat → FS) : MS :=
  (sSeq (sAsg (m2 modF (mCall intCallF (mCons (m2 addF (m2 addF (m2 mulF (mVar 5) (mLit (.int 16807))) (m2 mulF (mLit (.int 69621)) (mVar 4))) (mLit (.int 5))) mNil)) (mLit (.int 2147483629))) (gN 5))
  (sSeq (sExpr (mMeth isL appF (mVar 1) (mCons (m2 fdivF (mVar 5) (mLit (.int 1009))) mNil)))
  sSkip))
def W__law_draws_2 (S : Nat → FS) : MS :=
  (sSeq (sAsg (mCall absF (mCons (mVar 2) mNil)) (gN 3))
  (sSeq (sIf (mB (m2 geF (mVar 3) (m2 powF (mLit (.int 10)) (mLit (.int 18))))) (sSeq (sFor (miR1 (mLit (.int 60))) (gN 4) (W__law_draws_0 S))
  sSkip) (sSeq (sAsg (m2 modF (mCall intCallF (mCons (m2 addF (m2 mulF (mVar 3) (mLit (.int 48271))) (mLit (.int 11))) mNil)) (mLit (.int 2147483647))) (gN 5))
  (sSeq (sFor (miR1 (mLit (.int 12))) (gN 4) (W__law_draws_1 S))
  sSkip)))
  sSkip))
def B__law_draws (S : Nat → FS) : MS :=
  (sSeq (sAsg (mLst mNil) (gN 1))
  (sSeq (sFor (miSeq (mSl (mVar 0) mNoPart (mPart (mLit (.int 63))))) (gN 2) (W__law_draws_2 S))
  (sSeq (sRet (mVar 1))
  sSkip)))
def W__law_more_0 (S : Nat → FS) : MS :=
  (sSeq (sIf (mTru (mVar 0)) (sSeq (sAsg (m2 addF (mVar 2) (m2 ixF (mVar 0) (m2 modF (mCall intCallF (mCons (m2 addF (m2 mulF (mVar 1) (m2 addF (mVar 3) (mLit (.int 5)))) (mVar 3)) mNil)) (mCall lenF (mCons (mVar 0) mNil))))) (gN 2))
  sSkip) sSkip)
  (sSeq (sAsg (m2 modF (mCall intCallF (mCons (m2 addF (m2 addF (m2 mulF (mVar 2) (mLit (.int 16807))) (m2 mulF (mLit (.int 69621)) (mVar 3))) (mLit (.int 5))) mNil)) (mLit (.int 2147483629))) (gN 2))
  sSkip))
def B__law_more (S : Nat → FS) : MS :=
  (sSeq (sAsg (m2 modF (mCall intCallF (mCons (m2 addF (m2 addF (m2 mulF (mVar 1) (mLit (.int 48271))) (mCall lenF (mCons (mVar 0) mNil))) (mLit (.int 11))) mNil)) (mLit (.int 2147483629))) (gN 2))
  (sSeq (sFor (miR1 (mLit (.int 3))) (gN 3) (W__law_more_0 S))
  (sSeq (sRet (m2 fdivF (mVar 2) (mLit (.int 1009))))
  sSkip)))
def B__law_take (S : Nat → FS) : MS :=
  (sSeq (sAsg (m2 ixF (mVar 1) (mLit (.int 0))) (gN 3))
  (sSeq (sSetIx (mVar 1) (mLit (.int 0)) (m2 addF (mVar 3) (mLit (.int 1))))
  (sSeq (sRet (m2 modF (mCall intCallF (mCons (mIf (mB (m2 ltF (mVar 3) (mCall lenF (mCons (mVar 0) mNil)))) (m2 ixF (mVar 0) (mVar 3)) (mCall (callN (S 1)) (mCons (mVar 0) (mCons (mVar 3) mNil)))) mNil)) (mVar 2)))
  sSkip)))
def B__law_one (S : Nat → FS) : MS :=
  (sSeq (sRet (m2 ixF (mVar 0) (mCall (callN (S 2)) (mCons (mVar 1) (mCons (mVar 2) (mCons (mCall lenF (mCons (mVar 0) mNil)) mNil))))))
  sSkip)
def B__law_limits_right (S : Nat → FS) : MS :=
  (sSeq (sAsg (mLst (mCons (mLit g_MAX_NUMBER) (mCons (mLit g_MAX_NAME) (mCons (mLit g_MAX_ARGUMENTS) (mCons (mLit g_MAX_SIZE) (mCons (mLit g_MAX_TEXT) (mCons (mLit g_MAX_CLAUSES) (mCons (mLit g_MAX_STEPS) (mCons (mLit g_MAX_ANSWERS) (mCons (mLit g_MAX_CELLS) mNil)))))))))) (gN 0))
  (sSeq (sAsg (m2 addF (mVar 0) (mLst (mCons (mLit g_MAX_TABLE) (mCons (mLit g_MAX_LINES) (mCons (mLit g_MAX_EVENTS) (mCons (mLit g_MAX_WORK) mNil)))))) (gN 0))
  (sSeq (sAsg (mLst (mCons (mLit (.int 1000000)) (mCons (mLit (.int 16)) (mCons (mLit (.int 8)) (mCons (mLit (.int 300)) (mCons (mLit (.int 8000)) (mCons (mLit (.int 80)) (mCons (mLit (.int 4000)) (mCons (mLit (.int 200)) (mCons (mLit (.int 30000)) (mCons (mLit (.int 400)) (mCons (mLit (.int 200)) (mCons (mLit (.int 2000)) (mCons (mLit (.int 400000)) mNil)))))))))))))) (gN 1))
  (sSeq (sRet (mReprEq false (mVar 0) (mVar 1)))
  sSkip))))
def B__law_raise (S : Nat → FS) : MS :=
  (sSeq (sIf (mB (m2 (eqF false) (mVar 0) (mLit (.int 0)))) (sSeq (sRaise 0 "reason" (mCons (mVar 1) mNil))
  sSkip) sSkip)
  (sSeq (sIf (mB (m2 (eqF false) (mVar 0) (mLit (.int 1)))) (sSeq (sRaise 1 "reason" (mCons (mVar 1) mNil))
  sSkip) sSkip)
  (sSeq (sIf (mB (m2 (eqF false) (mVar 0) (mLit (.int 2)))) (sSeq (sRaise 2 "reason" (mCons (mVar 1) mNil))
  sSkip) sSkip)
  (sSeq (sIf (mB (m2 (eqF false) (mVar 0) (mLit (.int 3)))) (sSeq (sRaise 3 "reason" (mCons (mVar 1) mNil))
  sSkip) sSkip)
  (sSeq (sIf (mB (m2 (eqF false) (mVar 0) (mLit (.int 4)))) (sSeq (sRaise 4 "at" (mCons (mVar 1) mNil))
  sSkip) sSkip)
  (sSeq (sIf (mB (m2 (eqF false) (mVar 0) (mLit (.int 5)))) (sSeq (sRaise2 5 (mCons (mVar 1) (mCons (mVar 2) mNil)))
  sSkip) sSkip)
  (sSeq (sRaise 6 "line" (mCons (mVar 1) mNil))
  sSkip)))))))
def B__law_caught (S : Nat → FS) : MS :=
  (sSeq (sTryAs sel_ClauseError 3 (sSeq (sExpr (mCall (callN (S 5)) (mCons (mVar 0) (mCons (mVar 1) (mCons (mVar 2) mNil)))))
  sSkip) (fun x => (sSeq (sRet (mIf (mTru (mXis is_ValueError x)) (mHot 2 (B__law_kinds x)) (mLst mNil)))
  sSkip)))
  (sSeq (sRet (mLst mNil))
  sSkip))
def B__law_fields (S : Nat → FS) : MS :=
  (sSeq (sTryH [(sel_ArgumentError, some 3, fun x => (sSeq (sRet (mTup (mCons (mXf rd_reason "reason" x) mNil)))
  sSkip)), (sel_PaperError, some 3, fun x => (sSeq (sRet (mTup (mCons (mXf rd_reason "reason" x) mNil)))
  sSkip)), (sel_TooMany, some 3, fun x => (sSeq (sRet (mTup (mCons (mXf rd_reason "reason" x) mNil)))
  sSkip)), (sel_CheckError, some 3, fun x => (sSeq (sRet (mTup (mCons (mXf rd_reason "reason" x) mNil)))
  sSkip)), (sel_TextError, some 3, fun x => (sSeq (sRet (mTup (mCons (mXf rd_at "at" x) mNil)))
  sSkip)), (sel_LogError, some 3, fun x => (sSeq (sRet (mTup (mCons (mXf rd_number "number" x) (mCons (mXf rd_reason "reason" x) mNil))))
  sSkip)), (sel_CommandError, some 3, fun x => (sSeq (sRet (mTup (mCons (mXf rd_line "line" x) mNil)))
  sSkip))] (sSeq (sExpr (mCall (callN (S 5)) (mCons (mVar 0) (mCons (mVar 1) (mCons (mVar 2) mNil)))))
  sSkip))
  (sSeq (sRet (mLit .non))
  sSkip))
def W_law_0 (S : Nat → FS) : MS :=
  (sSeq (sPar2 5 6 (mCons (mCall (callN (S 3)) (mCons (mVar 3) (mCons (mVar 1) (mCons (mVar 2) mNil)))) (mCons (mCall (callN (S 3)) (mCons (mVar 3) (mCons (mVar 1) (mCons (mVar 2) mNil)))) mNil)))
  (sSeq (sIf (mB (m2 (eqF true) (mCall (callN (S 7)) (mCons (mVar 4) (mCons (mVar 5) (mCons (mVar 6) mNil)))) (mLC (miR1 (mLit (.int 7))) (gN 7) mtYes (m2 (eqF false) (mVar 7) (mVar 4)) [7]))) (sSeq (sRet (mLit (.bl false)))
  sSkip) sSkip)
  (sSeq (sIf (mB (mReprEq true (mCall (callN (S 8)) (mCons (mVar 4) (mCons (mVar 5) (mCons (mVar 6) mNil)))) (mIf (mB (m2 (eqF false) (mVar 4) (mLit (.int 5)))) (mTup (mCons (mVar 5) (mCons (mVar 6) mNil))) (mTup (mCons (mVar 5) mNil))))) (sSeq (sRet (mLit (.bl false)))
  sSkip) sSkip)
  sSkip)))
def B_law (S : Nat → FS) : MS :=
  (sSeq (sAsg (mCall (callN (S 0)) (mCons (mVar 0) mNil)) (gN 1))
  (sSeq (sAsg (mLst (mCons (mLit (.int 0)) mNil)) (gN 2))
  (sSeq (sIf (mtNot (mTru (mCall (callN (S 4)) mNil))) (sSeq (sRet (mLit (.bl false)))
  sSkip) sSkip)
  (sSeq (sAsg (mLst (mCons (mLit (.str "word")) (mCons (mLit (.str "")) (mCons (mLit (.str "form")) (mCons (mLit (.int 0)) (mCons (mLit (.int 17)) (mCons (m1 negF (mLit (.int 3))) (mCons (mLit .non) (mCons (mTup (mCons (mLit (.str "a")) (mCons (mLit (.int 5)) mNil))) (mCons (mLit (.str "a line")) (mCons (mLit (.bl true)) mNil))))))))))) (gN 3))
  (sSeq (sFor (miR1 (mLit (.int 7))) (gN 4) (W_law_0 S))
  (sSeq (sRet (mLit (.bl true)))
  sSkip))))))
theorem sc__law_draws : FnScope ["script", "draws", "cell", "rest", "k", "mixed"] ["script"] (defScope st__law_draws) := ⟨rfl, rfl, rfl, by decide +kernel, rfl, by decide +kernel, by decide +kernel⟩
theorem ok__law_draws {w : World} {K : PySem.W.Frag} {mg : Str → Option Value} {base : Heap} {z : Ad} {k : Nat} {S : Nat → FS} (hk : 60 ≤ k) (T : Txt K mg z) (U : All w K mg base z k S) : FnG prg w K mg base (k + 1) (z.f 0) (z.d 0) ["script"] (spOf (Gm K z) (runB 6 1 (B__law_draws S))) := by
  refine Fun.okD T.fn__law_draws sc__law_draws rfl ?_
  rintro X - - - - - - - - ⟨f, cdv, A, outer, s, H, E, rfl⟩ hr gd W tk
  have hu := hu_room hk hr
  have hp := passes_of (X := bodyX prg w K mg base ["script", "draws", "cell", "rest", "k", "mixed"] "_law_draws" st__law_draws f cdv A outer s H E) rfl
  exact (ss_cons (s_asg (m_lst ma_nil) (g_name (off_of rfl) sc__law_draws.nd rfl (Or.inl rfl) (Or.inl rfl)))
  (ss_cons (s_for hp rfl (i_seq rfl (m_slice rfl (m_var 0) mo_none (mo_some m_int))) (g_name (off_of rfl) sc__law_draws.nd rfl (Or.inl rfl) (Or.inl rfl)) (ss_cons (s_asg (m_callB call_abs cd_abs rfl T.n_abs (ma_cons (m_var 2) ma_nil)) (g_name (off_of rfl) sc__law_draws.nd rfl (Or.inl rfl) (Or.inl rfl)))
  (ss_cons (s_if (mt_cmp op_geA od_ge (m_var 3) (m_op op_pow od_pow m_int m_int) (by rfl)) (ss_cons (s_for hp rfl (i_rng1 rfl T.n_range m_int) (g_name (off_of rfl) sc__law_draws.nd rfl (Or.inl rfl) (Or.inl rfl)) (ss_cons (s_if (mt_cmp op_gtA od_gt (m_var 3) m_int (by rfl)) (ss_cons (s_expr (m_meth rfl PySem.F.plainAttrs_list PySem.F.slot_list_append PySem.F.type_list_append mt_append isL_ty md_append (m_var 1) (ma_cons (m_op op_modN od_mod (m_callT call_int1 cd_int rfl T.n_int (ma_cons (m_var 3) ma_nil)) m_int) ma_nil)))
  (ss_cons (s_asg (m_op op_fdivN od_fdiv (m_var 3) m_int) (g_name (off_of rfl) sc__law_draws.nd rfl (Or.inl rfl) (Or.inl rfl)))
  ss_nil)) ss_nil)
  ss_nil))
  ss_nil) (ss_cons (s_asg (m_op op_modN od_mod (m_callT call_int1 cd_int rfl T.n_int (ma_cons (m_op op_addA od_add (m_op op_mulA od_mul (m_var 3) m_int) m_int) ma_nil)) m_int) (g_name (off_of rfl) sc__law_draws.nd rfl (Or.inl rfl) (Or.inl rfl)))
  (ss_cons (s_for hp rfl (i_rng1 rfl T.n_range m_int) (g_name (off_of rfl) sc__law_draws.nd rfl (Or.inl rfl) (Or.inl rfl)) (ss_cons (s_asg (m_op op_modN od_mod (m_callT call_int1 cd_int rfl T.n_int (ma_cons (m_op op_addA od_add (m_op op_addA od_add (m_op op_mulA od_mul (m_var 5) m_int) (m_op op_mulA od_mul m_int (m_var 4))) m_int) ma_nil)) m_int) (g_name (off_of rfl) sc__law_draws.nd rfl (Or.inl rfl) (Or.inl rfl)))
  (ss_cons (s_expr (m_meth rfl PySem.F.plainAttrs_list PySem.F.slot_list_append PySem.F.type_list_append mt_append isL_ty md_append (m_var 1) (ma_cons (m_op op_fdivN od_fdiv (m_var 5) m_int) ma_nil)))
  ss_nil)))
  ss_nil)))
  ss_nil)))
  (ss_cons (s_ret (m_var 1))
  ss_nil)))
theorem sc__law_more : FnScope ["draws", "place", "mixed", "k"] ["draws", "place"] (defScope st__law_more) := ⟨rfl, rfl, rfl, by decide +kernel, rfl, by decide +kernel, by decide +kernel⟩
theorem ok__law_more {w : World} {K : PySem.W.Frag} {mg : Str → Option Value} {base : Heap} {z : Ad} {k : Nat} {S : Nat → FS} (hk : 60 ≤ k) (T : Txt K mg z) (U : All w K mg base z k S) : FnG prg w K mg base (k + 1) (z.f 1) (z.d 1) ["draws", "place"] (spOf (Gm K z) (runB 4 2 (B__law_more S))) := by
  refine Fun.okD T.fn__law_more sc__law_more rfl ?_
  rintro X - - - - - - - - ⟨f, cdv, A, outer, s, H, E, rfl⟩ hr gd W tk
  have hu := hu_room hk hr
  have hp := passes_of (X := bodyX prg w K mg base ["draws", "place", "mixed", "k"] "_law_more" st__law_more f cdv A outer s H E) rfl
  exact (ss_cons (s_asg (m_op op_modN od_mod (m_callT call_int1 cd_int rfl T.n_int (ma_cons (m_op op_addA od_add (m_op op_addA od_add (m_op op_mulA od_mul (m_var 1) m_int) (m_callB call_lenA cd_len rfl T.n_len (ma_cons (m_var 0) ma_nil))) m_int) ma_nil)) m_int) (g_name (off_of rfl) sc__law_more.nd rfl (Or.inl rfl) (Or.inl rfl)))
  (ss_cons (s_for hp rfl (i_rng1 rfl T.n_range m_int) (g_name (off_of rfl) sc__law_more.nd rfl (Or.inl rfl) (Or.inl rfl)) (ss_cons (s_if (mt_tru rfl (m_var 0)) (ss_cons (s_asg (m_op op_addA od_add (m_var 2) (m_ix hu rfl (m_var 0) (m_op op_modN od_mod (m_callT call_int1 cd_int rfl T.n_int (ma_cons (m_op op_addA od_add (m_op op_mulA od_mul (m_var 1) (m_op op_addA od_add (m_var 3) m_int)) (m_var 3)) ma_nil)) (m_callB call_lenA cd_len rfl T.n_len (ma_cons (m_var 0) ma_nil))))) (g_name (off_of rfl) sc__law_more.nd rfl (Or.inl rfl) (Or.inl rfl)))
  ss_nil) ss_nil)
  (ss_cons (s_asg (m_op op_modN od_mod (m_callT call_int1 cd_int rfl T.n_int (ma_cons (m_op op_addA od_add (m_op op_addA od_add (m_op op_mulA od_mul (m_var 2) m_int) (m_op op_mulA od_mul m_int (m_var 3))) m_int) ma_nil)) m_int) (g_name (off_of rfl) sc__law_more.nd rfl (Or.inl rfl) (Or.inl rfl)))
  ss_nil)))
  (ss_cons (s_ret (m_op op_fdivN od_fdiv (m_var 2) m_int))
  ss_nil)))
theorem sc__law_take : FnScope ["draws", "at", "many", "place"] ["draws", "at", "many"] (defScope st__law_take) := ⟨rfl, rfl, rfl, by decide +kernel, rfl, by decide +kernel, by decide +kernel⟩
theorem ok__law_take {w : World} {K : PySem.W.Frag} {mg : Str → Option Value} {base : Heap} {z : Ad} {k : Nat} {S : Nat → FS} (hk : 60 ≤ k) (T : Txt K mg z) (U : All w K mg base z k S) : FnG prg w K mg base (k + 1) (z.f 2) (z.d 2) ["draws", "at", "many"] (spOf (Gm K z) (runB 4 3 (B__law_take S))) := by
  refine Fun.okD T.fn__law_take sc__law_take rfl ?_
  rintro X - - - - - - - - ⟨f, cdv, A, outer, s, H, E, rfl⟩ hr gd W tk
  have hu := hu_room hk hr
  have hp := passes_of (X := bodyX prg w K mg base ["draws", "at", "many", "place"] "_law_take" st__law_take f cdv A outer s H E) rfl
  exact (ss_cons (s_asg (m_ix hu rfl (m_var 1) m_int) (g_name (off_of rfl) sc__law_take.nd rfl (Or.inl rfl) (Or.inl rfl)))
  (ss_cons (s_setIx hu (m_op op_addA od_add (m_var 3) m_int) (m_var 1) m_int)
  (ss_cons (s_ret (m_op op_modN od_mod (m_callT call_int1 cd_int rfl T.n_int (ma_cons (m_if (mt_cmp op_ltA od_lt (m_var 3) (m_callB call_lenA cd_len rfl T.n_len (ma_cons (m_var 0) ma_nil)) (by rfl)) (m_ix hu rfl (m_var 0) (m_var 3)) (m_call rfl (U.g__law_more) hr gd rfl T.m__law_more T.k__law_more T.b__law_more tk (ma_cons (m_var 0) (ma_cons (m_var 3) ma_nil)))) ma_nil)) (m_var 2)))
  ss_nil)))
theorem sc__law_one : FnScope ["rows", "draws", "at"] ["rows", "draws", "at"] (defScope st__law_one) := ⟨rfl, rfl, rfl, by decide +kernel, rfl, by decide +kernel, by decide +kernel⟩
theorem ok__law_one {w : World} {K : PySem.W.Frag} {mg : Str → Option Value} {base : Heap} {z : Ad} {k : Nat} {S : Nat → FS} (hk : 60 ≤ k) (T : Txt K mg z) (U : All w K mg base z k S) : FnG prg w K mg base (k + 1) (z.f 3) (z.d 3) ["rows", "draws", "at"] (spOf (Gm K z) (runB 3 3 (B__law_one S))) := by
  refine Fun.okD T.fn__law_one sc__law_one rfl ?_
  rintro X - - - - - - - - ⟨f, cdv, A, outer, s, H, E, rfl⟩ hr gd W tk
  have hu := hu_room hk hr
  have hp := passes_of (X := bodyX prg w K mg base ["rows", "draws", "at"] "_law_one" st__law_one f cdv A outer s H E) rfl
  exact (ss_cons (s_ret (m_ix hu rfl (m_var 0) (m_call rfl (U.g__law_take) hr gd rfl T.m__law_take T.k__law_take T.b__law_take tk (ma_cons (m_var 1) (ma_cons (m_var 2) (ma_cons (m_callB call_lenA cd_len rfl T.n_len (ma_cons (m_var 0) ma_nil)) ma_nil))))))
  ss_nil)
theorem sc__law_limits_right : FnScope ["told", "due"] [] (defScope st__law_limits_right) := ⟨rfl, rfl, rfl, by decide +kernel, rfl, by decide +kernel, by decide +kernel⟩
theorem ok__law_limits_right {w : World} {K : PySem.W.Frag} {mg : Str → Option Value} {base : Heap} {z : Ad} {k : Nat} {S : Nat → FS} (hk : 60 ≤ k) (T : Txt K mg z) (U : All w K mg base z k S) : FnG prg w K mg base (k + 1) (z.f 4) (z.d 4) [] (spOf (Gm K z) (runB 2 0 (B__law_limits_right S))) := by
  refine Fun.okD T.fn__law_limits_right sc__law_limits_right rfl ?_
  rintro X - - - - - - - - ⟨f, cdv, A, outer, s, H, E, rfl⟩ hr gd W tk
  have hu := hu_room hk hr
  have hp := passes_of (X := bodyX prg w K mg base ["told", "due"] "_law_limits_right" st__law_limits_right f cdv A outer s H E) rfl
  exact (ss_cons (s_asg (m_lst (ma_cons (m_gl rfl T.g_MAX_NUMBER) (ma_cons (m_gl rfl T.g_MAX_NAME) (ma_cons (m_gl rfl T.g_MAX_ARGUMENTS) (ma_cons (m_gl rfl T.g_MAX_SIZE) (ma_cons (m_gl rfl T.g_MAX_TEXT) (ma_cons (m_gl rfl T.g_MAX_CLAUSES) (ma_cons (m_gl rfl T.g_MAX_STEPS) (ma_cons (m_gl rfl T.g_MAX_ANSWERS) (ma_cons (m_gl rfl T.g_MAX_CELLS) ma_nil)))))))))) (g_name (off_of rfl) sc__law_limits_right.nd rfl (Or.inl rfl) (Or.inl rfl)))
  (ss_cons (s_asg (m_op op_addA od_add (m_var 0) (m_lst (ma_cons (m_gl rfl T.g_MAX_TABLE) (ma_cons (m_gl rfl T.g_MAX_LINES) (ma_cons (m_gl rfl T.g_MAX_EVENTS) (ma_cons (m_gl rfl T.g_MAX_WORK) ma_nil)))))) (g_name (off_of rfl) sc__law_limits_right.nd rfl (Or.inl rfl) (Or.inl rfl)))
  (ss_cons (s_asg (m_lst (ma_cons m_int (ma_cons m_int (ma_cons m_int (ma_cons m_int (ma_cons m_int (ma_cons m_int (ma_cons m_int (ma_cons m_int (ma_cons m_int (ma_cons m_int (ma_cons m_int (ma_cons m_int (ma_cons m_int ma_nil)))))))))))))) (g_name (off_of rfl) sc__law_limits_right.nd rfl (Or.inl rfl) (Or.inl rfl)))
  (ss_cons (s_ret (m_reprEq rfl gd hu rfl T.n_repr (m_var 0) (m_var 1)))
  ss_nil))))
theorem sc__law_raise : FnScope ["k", "one", "other"] ["k", "one", "other"] (defScope st__law_raise) := ⟨rfl, rfl, rfl, by decide +kernel, rfl, by decide +kernel, by decide +kernel⟩
theorem ok__law_raise {w : World} {K : PySem.W.Frag} {mg : Str → Option Value} {base : Heap} {z : Ad} {k : Nat} {S : Nat → FS} (hk : 60 ≤ k) (T : Txt K mg z) (U : All w K mg base z k S) : FnG prg w K mg base (k + 1) (z.f 5) (z.d 5) ["k", "one", "other"] (spOf (Gm K z) (runB 3 3 (B__law_raise S))) := by
  refine Fun.okD T.fn__law_raise sc__law_raise rfl ?_
  rintro X - - - - - - - - ⟨f, cdv, A, outer, s, H, E, rfl⟩ hr gd W tk
  have hu := hu_room hk hr
  have hp := passes_of (X := bodyX prg w K mg base ["k", "one", "other"] "_law_raise" st__law_raise f cdv A outer s H E) rfl
  exact (ss_cons (s_if (mt_cmp (op_eqG hu) od_eq (m_var 0) m_int (by rfl)) (ss_cons (s_raise 0 rfl tk T.r_ArgumentError T.c_ArgumentError (by have := hr.dp; omega) (ma_cons (m_var 1) ma_nil))
  ss_nil) ss_nil)
  (ss_cons (s_if (mt_cmp (op_eqG hu) od_eq (m_var 0) m_int (by rfl)) (ss_cons (s_raise 1 rfl tk T.r_PaperError T.c_PaperError (by have := hr.dp; omega) (ma_cons (m_var 1) ma_nil))
  ss_nil) ss_nil)
  (ss_cons (s_if (mt_cmp (op_eqG hu) od_eq (m_var 0) m_int (by rfl)) (ss_cons (s_raise 2 rfl tk T.r_TooMany T.c_TooMany (by have := hr.dp; omega) (ma_cons (m_var 1) ma_nil))
  ss_nil) ss_nil)
  (ss_cons (s_if (mt_cmp (op_eqG hu) od_eq (m_var 0) m_int (by rfl)) (ss_cons (s_raise 3 rfl tk T.r_CheckError T.c_CheckError (by have := hr.dp; omega) (ma_cons (m_var 1) ma_nil))
  ss_nil) ss_nil)
  (ss_cons (s_if (mt_cmp (op_eqG hu) od_eq (m_var 0) m_int (by rfl)) (ss_cons (s_raise 4 rfl tk T.r_TextError T.c_TextError (by have := hr.dp; omega) (ma_cons (m_var 1) ma_nil))
  ss_nil) ss_nil)
  (ss_cons (s_if (mt_cmp (op_eqG hu) od_eq (m_var 0) m_int (by rfl)) (ss_cons (s_raise2 5 rfl tk T.r_LogError T.c_LogError (by have := hr.dp; omega) (ma_cons (m_var 1) (ma_cons (m_var 2) ma_nil)))
  ss_nil) ss_nil)
  (ss_cons (s_raise 6 rfl tk T.r_CommandError T.c_CommandError (by have := hr.dp; omega) (ma_cons (m_var 1) ma_nil))
  ss_nil)))))))
theorem sc__law_caught : FnScope ["k", "one", "other", "e"] ["k", "one", "other"] (defScope st__law_caught) := ⟨rfl, rfl, rfl, by decide +kernel, rfl, by decide +kernel, by decide +kernel⟩
theorem ok__law_caught {w : World} {K : PySem.W.Frag} {mg : Str → Option Value} {base : Heap} {z : Ad} {k : Nat} {S : Nat → FS} (hk : 60 ≤ k) (T : Txt K mg z) (U : All w K mg base z k S) : FnG prg w K mg base (k + 1) (z.f 7) (z.d 7) ["k", "one", "other"] (spOf (Gm K z) (runB 4 3 (B__law_caught S))) := by
  refine Fun.okD T.fn__law_caught sc__law_caught rfl ?_
  rintro X - - - - - - - - ⟨f, cdv, A, outer, s, H, E, rfl⟩ hr gd W tk
  have hu := hu_room hk hr
  have hp := passes_of (X := bodyX prg w K mg base ["k", "one", "other", "e"] "_law_caught" st__law_caught f cdv A outer s H E) rfl
  exact (ss_cons (s_try_as rfl rfl rfl rfl sc__law_caught.nd rfl rfl ⟨rfl, rfl, Or.inl T.c_ClauseError⟩ tk T.s_ClauseError (fun W' pn xe tk' hp' => (ss_cons (s_expr (m_call rfl (U.g__law_raise) hr gd rfl T.m__law_raise T.k__law_raise T.b__law_raise tk' (ma_cons (m_var 0) (ma_cons (m_var 1) (ma_cons (m_var 2) ma_nil)))))
  ss_nil)) (fun a oe x d pn hz hf => (ss_cons (s_ret (m_if (mt_tru rfl (m_isP List.mem_cons_self rfl hz hf T.i_ValueError rfl T.n_isinstance (tgt_bltn rfl T.n_ValueError (by decide +kernel) (by decide) (by decide)) rfl (Or.inl rfl) (by decide) (by decide))) (m_hot hf T.fn__law_kinds sc__law_kinds rfl T.m__law_kinds T.k__law_kinds T.b__law_kinds (by have := hr.dp; omega) (hu_hot hk hr) rfl (Or.inl rfl) (by decide) (by decide) (by decide) (fun cdv A outer s H E hu => hot__law_kinds T hz hf hu)) (m_lst ma_nil)))
  ss_nil)))
  (ss_cons (s_ret (m_lst ma_nil))
  ss_nil))
theorem sc__law_fields : FnScope ["k", "one", "other", "e"] ["k", "one", "other"] (defScope st__law_fields) := ⟨rfl, rfl, rfl, by decide +kernel, rfl, by decide +kernel, by decide +kernel⟩
theorem ok__law_fields {w : World} {K : PySem.W.Frag} {mg : Str → Option Value} {base : Heap} {z : Ad} {k : Nat} {S : Nat → FS} (hk : 60 ≤ k) (T : Txt K mg z) (U : All w K mg base z k S) : FnG prg w K mg base (k + 1) (z.f 8) (z.d 8) ["k", "one", "other"] (spOf (Gm K z) (runB 4 3 (B__law_fields S))) := by
  refine Fun.okD T.fn__law_fields sc__law_fields rfl ?_
  rintro X - - - - - - - - ⟨f, cdv, A, outer, s, H, E, rfl⟩ hr gd W tk
  have hu := hu_room hk hr
  have hp := passes_of (X := bodyX prg w K mg base ["k", "one", "other", "e"] "_law_fields" st__law_fields f cdv A outer s H E) rfl
  exact (ss_cons (s_tryH rfl rfl rfl rfl sc__law_fields.nd tk (fun W' pn xe tk' hp' => (ss_cons (s_expr (m_call rfl (U.g__law_raise) hr gd rfl T.m__law_raise T.k__law_raise T.b__law_raise tk' (ma_cons (m_var 0) (ma_cons (m_var 1) (ma_cons (m_var 2) ma_nil)))))
  ss_nil)) (HX.as ⟨rfl, rfl, Or.inl T.c_ArgumentError⟩ rfl rfl T.s_ArgumentError (fun a oe x d pn hz hf => (ss_cons (s_ret (m_tup (ma_cons (m_xf rfl hz hf T.x_reason rfl (Or.inl rfl) (by decide) (by decide)) ma_nil)))
  ss_nil)) (HX.as ⟨rfl, rfl, Or.inl T.c_PaperError⟩ rfl rfl T.s_PaperError (fun a oe x d pn hz hf => (ss_cons (s_ret (m_tup (ma_cons (m_xf rfl hz hf T.x_reason rfl (Or.inl rfl) (by decide) (by decide)) ma_nil)))
  ss_nil)) (HX.as ⟨rfl, rfl, Or.inl T.c_TooMany⟩ rfl rfl T.s_TooMany (fun a oe x d pn hz hf => (ss_cons (s_ret (m_tup (ma_cons (m_xf rfl hz hf T.x_reason rfl (Or.inl rfl) (by decide) (by decide)) ma_nil)))
  ss_nil)) (HX.as ⟨rfl, rfl, Or.inl T.c_CheckError⟩ rfl rfl T.s_CheckError (fun a oe x d pn hz hf => (ss_cons (s_ret (m_tup (ma_cons (m_xf rfl hz hf T.x_reason rfl (Or.inl rfl) (by decide) (by decide)) ma_nil)))
  ss_nil)) (HX.as ⟨rfl, rfl, Or.inl T.c_TextError⟩ rfl rfl T.s_TextError (fun a oe x d pn hz hf => (ss_cons (s_ret (m_tup (ma_cons (m_xf rfl hz hf T.x_at rfl (Or.inl rfl) (by decide) (by decide)) ma_nil)))
  ss_nil)) (HX.as ⟨rfl, rfl, Or.inl T.c_LogError⟩ rfl rfl T.s_LogError (fun a oe x d pn hz hf => (ss_cons (s_ret (m_tup (ma_cons (m_xf rfl hz hf T.x_number rfl (Or.inl rfl) (by decide) (by decide)) (ma_cons (m_xf rfl hz hf T.x_reason rfl (Or.inl rfl) (by decide) (by decide)) ma_nil))))
  ss_nil)) (HX.as ⟨rfl, rfl, Or.inl T.c_CommandError⟩ rfl rfl T.s_CommandError (fun a oe x d pn hz hf => (ss_cons (s_ret (m_tup (ma_cons (m_xf rfl hz hf T.x_line rfl (Or.inl rfl) (by decide) (by decide)) ma_nil)))
  ss_nil)) HX.nil))))))))
  (ss_cons (s_ret m_non)
  ss_nil))
theorem sc_law : FnScope ["script", "draws", "at", "values", "k", "one", "other", "j"] ["script"] (defScope st_law) := ⟨rfl, rfl, rfl, by decide +kernel, rfl, by decide +kernel, by decide +kernel⟩
theorem ok_law {w : World} {K : PySem.W.Frag} {mg : Str → Option Value} {base : Heap} {z : Ad} {k : Nat} {S : Nat → FS} (hk : 60 ≤ k) (T : Txt K mg z) (U : All w K mg base z k S) : FnG prg w K mg base (k + 1) (z.f 9) (z.d 9) ["script"] (spOf (Gm K z) (runB 8 1 (B_law S))) := by
  refine Fun.okD T.fn_law sc_law rfl ?_
  rintro X - - - - - - - - ⟨f, cdv, A, outer, s, H, E, rfl⟩ hr gd W tk
  have hu := hu_room hk hr
  have hp := passes_of (X := bodyX prg w K mg base ["script", "draws", "at", "values", "k", "one", "other", "j"] "law" st_law f cdv A outer s H E) rfl
  exact (ss_cons (s_asg (m_call rfl (U.g__law_draws) hr gd rfl T.m__law_draws T.k__law_draws T.b__law_draws tk (ma_cons (m_var 0) ma_nil)) (g_name (off_of rfl) sc_law.nd rfl (Or.inl rfl) (Or.inl rfl)))
  (ss_cons (s_asg (m_lst (ma_cons m_int ma_nil)) (g_name (off_of rfl) sc_law.nd rfl (Or.inl rfl) (Or.inl rfl)))
  (ss_cons (s_if (mt_not (mt_tru rfl (m_call0 rfl (U.g__law_limits_right) hr gd rfl T.m__law_limits_right T.k__law_limits_right T.b__law_limits_right tk))) (ss_cons (s_ret m_bl)
  ss_nil) ss_nil)
  (ss_cons (s_asg (m_lst (ma_cons m_str (ma_cons m_str (ma_cons m_str (ma_cons m_int (ma_cons m_int (ma_cons (m_neg m_int) (ma_cons m_non (ma_cons (m_tup (ma_cons m_str (ma_cons m_int ma_nil))) (ma_cons m_str (ma_cons m_bl ma_nil))))))))))) (g_name (off_of rfl) sc_law.nd rfl (Or.inl rfl) (Or.inl rfl)))
  (ss_cons (s_for hp rfl (i_rng1 rfl T.n_range m_int) (g_name (off_of rfl) sc_law.nd rfl (Or.inr rfl) (Or.inl rfl)) (ss_cons (s_par2 (off_of rfl) (off_of rfl) rfl sc_law.nd rfl rfl (by decide) rfl rfl (ma_cons (m_call rfl (U.g__law_one) hr gd rfl T.m__law_one T.k__law_one T.b__law_one tk (ma_cons (m_var 3) (ma_cons (m_var 1) (ma_cons (m_var 2) ma_nil)))) (ma_cons (m_call rfl (U.g__law_one) hr gd rfl T.m__law_one T.k__law_one T.b__law_one tk (ma_cons (m_var 3) (ma_cons (m_var 1) (ma_cons (m_var 2) ma_nil)))) ma_nil)))
  (ss_cons (s_if (mt_cmp (op_neG hu) od_eq (m_call rfl (U.g__law_caught) hr gd rfl T.m__law_caught T.k__law_caught T.b__law_caught tk (ma_cons (m_var 4) (ma_cons (m_var 5) (ma_cons (m_var 6) ma_nil)))) (m_lc (own := [("j", 7)]) rfl rfl sc_law.nd (i_rng1 rfl T.n_range m_int) (blkOk_by (by rfl)) (fun _ _ _ _ _ => (w_name (off_of rfl) (by decide) sc_law.nd rfl (Or.inl rfl) (Or.inr rfl))) (fun _ _ _ _ _ => mts_nil) (fun _ _ _ _ _ => (m_cmp (op_eqG hu) od_eq (m_var 7) (m_var 4) (by rfl)))) (by rfl)) (ss_cons (s_ret m_bl)
  ss_nil) ss_nil)
  (ss_cons (s_if (mt_reprNe rfl gd hu rfl T.n_repr (m_call rfl (U.g__law_fields) hr gd rfl T.m__law_fields T.k__law_fields T.b__law_fields tk (ma_cons (m_var 4) (ma_cons (m_var 5) (ma_cons (m_var 6) ma_nil)))) (m_if (mt_cmp (op_eqG hu) od_eq (m_var 4) m_int (by rfl)) (m_tup (ma_cons (m_var 5) (ma_cons (m_var 6) ma_nil))) (m_tup (ma_cons (m_var 5) ma_nil)))) (ss_cons (s_ret m_bl)
  ss_nil) ss_nil)
  ss_nil))))
  (ss_cons (s_ret m_bl)
  ss_nil))))))
def step (S : Nat → FS) : Nat → FS := fun i => match i with
  | 0 => runB 6 1 (B__law_draws S)
  | 1 => runB 4 2 (B__law_more S)
  | 2 => runB 4 3 (B__law_take S)
  | 3 => runB 3 3 (B__law_one S)
  | 4 => runB 2 0 (B__law_limits_right S)
  | 5 => runB 3 3 (B__law_raise S)
  | 7 => runB 4 3 (B__law_caught S)
  | 8 => runB 4 3 (B__law_fields S)
  | 9 => runB 8 1 (B_law S)
  | _ => fun _ _ => .bad
def sem : Nat → Nat → FS
  | 0 => fun _ _ _ => .bad
  | n + 1 => step (sem n)
theorem sem__law_draws (n : Nat) : sem (n + 1) 0 = runB 6 1 (B__law_draws (sem n)) := rfl
theorem sem__law_more (n : Nat) : sem (n + 1) 1 = runB 4 2 (B__law_more (sem n)) := rfl
theorem sem__law_take (n : Nat) : sem (n + 1) 2 = runB 4 3 (B__law_take (sem n)) := rfl
theorem sem__law_one (n : Nat) : sem (n + 1) 3 = runB 3 3 (B__law_one (sem n)) := rfl
theorem sem__law_limits_right (n : Nat) : sem (n + 1) 4 = runB 2 0 (B__law_limits_right (sem n)) := rfl
theorem sem__law_raise (n : Nat) : sem (n + 1) 5 = runB 3 3 (B__law_raise (sem n)) := rfl
theorem sem__law_caught (n : Nat) : sem (n + 1) 7 = runB 4 3 (B__law_caught (sem n)) := rfl
theorem sem__law_fields (n : Nat) : sem (n + 1) 8 = runB 4 3 (B__law_fields (sem n)) := rfl
theorem sem_law (n : Nat) : sem (n + 1) 9 = runB 8 1 (B_law (sem n)) := rfl
theorem all_ok {w : World} {K : PySem.W.Frag} {mg : Str → Option Value} {base : Heap} {z : Ad} (T : Txt K mg z) : ∀ n, All w K mg base z (60 + n) (sem n)
  | 0 => ⟨fnG_bad, fnG_bad, fnG_bad, fnG_bad, fnG_bad, fnG_bad, fnG_bad, fnG_bad, fnG_bad⟩
  | n + 1 => ⟨ok__law_draws (Nat.le_add_right 60 _) T (all_ok T n), ok__law_more (Nat.le_add_right 60 _) T (all_ok T n), ok__law_take (Nat.le_add_right 60 _) T (all_ok T n), ok__law_one (Nat.le_add_right 60 _) T (all_ok T n), ok__law_limits_right (Nat.le_add_right 60 _) T (all_ok T n), ok__law_raise (Nat.le_add_right 60 _) T (all_ok T n), ok__law_caught (Nat.le_add_right 60 _) T (all_ok T n), ok__law_fields (Nat.le_add_right 60 _) T (all_ok T n), ok_law (Nat.le_add_right 60 _) T (all_ok T n)⟩
theorem mk {w : World} {K : PySem.W.Frag} {h : Heap} {mg : Str → Option Value} {fa : Addr} (X : K.In h) (G : h.Ns mainGlobals mg) (hfa : mg "law" = some (.ref fa))
    {f0 : Addr} {od0 an0 : Option Addr} {sl0 : Array (Option Value)} {oc0 kV0 dc0 pm0 cd0 ct0 : Value}
    {f1 : Addr} {od1 an1 : Option Addr} {sl1 : Array (Option Value)} {oc1 kV1 dc1 pm1 cd1 ct1 : Value}
    {f2 : Addr} {od2 an2 : Option Addr} {sl2 : Array (Option Value)} {oc2 kV2 dc2 pm2 cd2 ct2 : Value}
    {f3 : Addr} {od3 an3 : Option Addr} {sl3 : Array (Option Value)} {oc3 kV3 dc3 pm3 cd3 ct3 : Value}
    {f4 : Addr} {od4 an4 : Option Addr} {sl4 : Array (Option Value)} {oc4 kV4 dc4 pm4 cd4 ct4 : Value}
    {f5 : Addr} {od5 an5 : Option Addr} {sl5 : Array (Option Value)} {oc5 kV5 dc5 pm5 cd5 ct5 : Value}
    {f6 : Addr} {od6 an6 : Option Addr} {sl6 : Array (Option Value)} {oc6 kV6 dc6 pm6 cd6 ct6 : Value}
    {f7 : Addr} {od7 an7 : Option Addr} {sl7 : Array (Option Value)} {oc7 kV7 dc7 pm7 cd7 ct7 : Value}
    {f8 : Addr} {od8 an8 : Option Addr} {sl8 : Array (Option Value)} {oc8 kV8 dc8 pm8 cd8 ct8 : Value}
    {f9 : Addr} {od9 an9 : Option Addr} {sl9 : Array (Option Value)} {oc9 kV9 dc9 pm9 cd9 ct9 : Value}
    {t_MAX_ANSWERS : Tok}
    {t_MAX_ARGUMENTS : Tok}
    {t_MAX_CELLS : Tok}
    {t_MAX_CLAUSES : Tok}
    {t_MAX_EVENTS : Tok}
    {t_MAX_LINES : Tok}
    {t_MAX_NAME : Tok}
    {t_MAX_NUMBER : Tok}
    {t_MAX_SIZE : Tok}
    {t_MAX_STEPS : Tok}
    {t_MAX_TABLE : Tok}
    {t_MAX_TEXT : Tok}
    {t_MAX_WORK : Tok}
    {C_ArgumentError : Addr}
    {C_PaperError : Addr}
    {C_TooMany : Addr}
    {C_CheckError : Addr}
    {C_TextError : Addr}
    {C_LogError : Addr}
    {C_CommandError : Addr}
    {C_ClauseError : Addr}
    {C_ReasonError : Addr}
    {fI_ReasonError cda_ReasonError cc_ReasonError : Addr} {oc_ReasonError dc_ReasonError pm_ReasonError ct_ReasonError ccl_ReasonError cl_ReasonError : Value} {od_ReasonError an_ReasonError cdd_ReasonError cld_ReasonError : Option Addr} {osl_ReasonError ccs_ReasonError csl_ReasonError : Array (Option Value)} {vs_ReasonError : Array Value}
    {file_ReasonError : Str} {tf_ReasonError : Tok}
    {fI_TextError cda_TextError cc_TextError : Addr} {oc_TextError dc_TextError pm_TextError ct_TextError ccl_TextError cl_TextError : Value} {od_TextError an_TextError cdd_TextError cld_TextError : Option Addr} {osl_TextError ccs_TextError csl_TextError : Array (Option Value)} {vs_TextError : Array Value}
    {file_TextError : Str} {tf_TextError : Tok}
    {fI_LogError cda_LogError cc_LogError : Addr} {oc_LogError dc_LogError pm_LogError ct_LogError ccl_LogError cl_LogError : Value} {od_LogError an_LogError cdd_LogError cld_LogError : Option Addr} {osl_LogError ccs_LogError csl_LogError : Array (Option Value)} {vs_LogError : Array Value}
    {file_LogError : Str} {tf_LogError : Tok}
    {fI_CommandError cda_CommandError cc_CommandError : Addr} {oc_CommandError dc_CommandError pm_CommandError ct_CommandError ccl_CommandError cl_CommandError : Value} {od_CommandError an_CommandError cdd_CommandError cld_CommandError : Option Addr} {osl_CommandError ccs_CommandError csl_CommandError : Array (Option Value)} {vs_CommandError : Array Value}
    {file_CommandError : Str} {tf_CommandError : Tok}
    {nm_ArgumentError qn_ArgumentError : Str} {N_ArgumentError : Addr} {bs_ArgumentError bm_ArgumentError sub_ArgumentError : List Value} {sn_ArgumentError : List Str} {ab_ArgumentError : Bool} {col_ArgumentError : Option Bool} {dd_ArgumentError : Option Addr} {k0_ArgumentError k1_ArgumentError k2_ArgumentError k3_ArgumentError k5_ArgumentError : Option Value} {B_ArgumentError nI_ArgumentError iI_ArgumentError : String}
    {nm_PaperError qn_PaperError : Str} {N_PaperError : Addr} {bs_PaperError bm_PaperError sub_PaperError : List Value} {sn_PaperError : List Str} {ab_PaperError : Bool} {col_PaperError : Option Bool} {dd_PaperError : Option Addr} {k0_PaperError k1_PaperError k2_PaperError k3_PaperError k5_PaperError : Option Value} {B_PaperError nI_PaperError iI_PaperError : String}
    {nm_TooMany qn_TooMany : Str} {N_TooMany : Addr} {bs_TooMany bm_TooMany sub_TooMany : List Value} {sn_TooMany : List Str} {ab_TooMany : Bool} {col_TooMany : Option Bool} {dd_TooMany : Option Addr} {k0_TooMany k1_TooMany k2_TooMany k3_TooMany k5_TooMany : Option Value} {B_TooMany nI_TooMany iI_TooMany : String}
    {nm_CheckError qn_CheckError : Str} {N_CheckError : Addr} {bs_CheckError bm_CheckError sub_CheckError : List Value} {sn_CheckError : List Str} {ab_CheckError : Bool} {col_CheckError : Option Bool} {dd_CheckError : Option Addr} {k0_CheckError k1_CheckError k2_CheckError k3_CheckError k5_CheckError : Option Value} {B_CheckError nI_CheckError iI_CheckError : String}
    {nm_TextError qn_TextError : Str} {N_TextError : Addr} {bs_TextError bm_TextError sub_TextError : List Value} {sn_TextError : List Str} {ab_TextError : Bool} {col_TextError : Option Bool} {dd_TextError : Option Addr} {k0_TextError k1_TextError k2_TextError k3_TextError k5_TextError : Option Value} {B_TextError nI_TextError iI_TextError : String}
    {nm_LogError qn_LogError : Str} {N_LogError : Addr} {bs_LogError bm_LogError sub_LogError : List Value} {sn_LogError : List Str} {ab_LogError : Bool} {col_LogError : Option Bool} {dd_LogError : Option Addr} {k0_LogError k1_LogError k2_LogError k3_LogError k5_LogError : Option Value} {B_LogError nI_LogError iI_LogError : String}
    {nm_CommandError qn_CommandError : Str} {N_CommandError : Addr} {bs_CommandError bm_CommandError sub_CommandError : List Value} {sn_CommandError : List Str} {ab_CommandError : Bool} {col_CommandError : Option Bool} {dd_CommandError : Option Addr} {k0_CommandError k1_CommandError k2_CommandError k3_CommandError k5_CommandError : Option Value} {B_CommandError nI_CommandError iI_CommandError : String}
    (a0 : PySem.W.nsIn K mainGlobals "_law_draws" = some (some (.ref f0)))
    (l0 : K.lookup f0 = some ⟨oc0, od0, .func (PySem.W.fnOf "_law_draws" "_law_draws" (defArgs st__law_draws) (defBody st__law_draws) (defScope st__law_draws) .none kV0 dc0 pm0 an0 cd0 ct0), sl0⟩)
    (c0 : PySem.W.codeIn K cd0 "_law_draws" = true)
    (k0 : PySem.W.keepIn K (.ref f0) = true)
    (a1 : PySem.W.nsIn K mainGlobals "_law_more" = some (some (.ref f1)))
    (l1 : K.lookup f1 = some ⟨oc1, od1, .func (PySem.W.fnOf "_law_more" "_law_more" (defArgs st__law_more) (defBody st__law_more) (defScope st__law_more) .none kV1 dc1 pm1 an1 cd1 ct1), sl1⟩)
    (c1 : PySem.W.codeIn K cd1 "_law_more" = true)
    (k1 : PySem.W.keepIn K (.ref f1) = true)
    (a2 : PySem.W.nsIn K mainGlobals "_law_take" = some (some (.ref f2)))
    (l2 : K.lookup f2 = some ⟨oc2, od2, .func (PySem.W.fnOf "_law_take" "_law_take" (defArgs st__law_take) (defBody st__law_take) (defScope st__law_take) .none kV2 dc2 pm2 an2 cd2 ct2), sl2⟩)
    (c2 : PySem.W.codeIn K cd2 "_law_take" = true)
    (k2 : PySem.W.keepIn K (.ref f2) = true)
    (a3 : PySem.W.nsIn K mainGlobals "_law_one" = some (some (.ref f3)))
    (l3 : K.lookup f3 = some ⟨oc3, od3, .func (PySem.W.fnOf "_law_one" "_law_one" (defArgs st__law_one) (defBody st__law_one) (defScope st__law_one) .none kV3 dc3 pm3 an3 cd3 ct3), sl3⟩)
    (c3 : PySem.W.codeIn K cd3 "_law_one" = true)
    (k3 : PySem.W.keepIn K (.ref f3) = true)
    (a4 : PySem.W.nsIn K mainGlobals "_law_limits_right" = some (some (.ref f4)))
    (l4 : K.lookup f4 = some ⟨oc4, od4, .func (PySem.W.fnOf "_law_limits_right" "_law_limits_right" (defArgs st__law_limits_right) (defBody st__law_limits_right) (defScope st__law_limits_right) .none kV4 dc4 pm4 an4 cd4 ct4), sl4⟩)
    (c4 : PySem.W.codeIn K cd4 "_law_limits_right" = true)
    (k4 : PySem.W.keepIn K (.ref f4) = true)
    (a5 : PySem.W.nsIn K mainGlobals "_law_raise" = some (some (.ref f5)))
    (l5 : K.lookup f5 = some ⟨oc5, od5, .func (PySem.W.fnOf "_law_raise" "_law_raise" (defArgs st__law_raise) (defBody st__law_raise) (defScope st__law_raise) .none kV5 dc5 pm5 an5 cd5 ct5), sl5⟩)
    (c5 : PySem.W.codeIn K cd5 "_law_raise" = true)
    (k5 : PySem.W.keepIn K (.ref f5) = true)
    (a6 : PySem.W.nsIn K mainGlobals "_law_kinds" = some (some (.ref f6)))
    (l6 : K.lookup f6 = some ⟨oc6, od6, .func (PySem.W.fnOf "_law_kinds" "_law_kinds" (defArgs st__law_kinds) (defBody st__law_kinds) (defScope st__law_kinds) .none kV6 dc6 pm6 an6 cd6 ct6), sl6⟩)
    (c6 : PySem.W.codeIn K cd6 "_law_kinds" = true)
    (k6 : PySem.W.keepIn K (.ref f6) = true)
    (a7 : PySem.W.nsIn K mainGlobals "_law_caught" = some (some (.ref f7)))
    (l7 : K.lookup f7 = some ⟨oc7, od7, .func (PySem.W.fnOf "_law_caught" "_law_caught" (defArgs st__law_caught) (defBody st__law_caught) (defScope st__law_caught) .none kV7 dc7 pm7 an7 cd7 ct7), sl7⟩)
    (c7 : PySem.W.codeIn K cd7 "_law_caught" = true)
    (k7 : PySem.W.keepIn K (.ref f7) = true)
    (a8 : PySem.W.nsIn K mainGlobals "_law_fields" = some (some (.ref f8)))
    (l8 : K.lookup f8 = some ⟨oc8, od8, .func (PySem.W.fnOf "_law_fields" "_law_fields" (defArgs st__law_fields) (defBody st__law_fields) (defScope st__law_fields) .none kV8 dc8 pm8 an8 cd8 ct8), sl8⟩)
    (c8 : PySem.W.codeIn K cd8 "_law_fields" = true)
    (k8 : PySem.W.keepIn K (.ref f8) = true)
    (a9 : PySem.W.nsIn K mainGlobals "law" = some (some (.ref f9)))
    (l9 : K.lookup f9 = some ⟨oc9, od9, .func (PySem.W.fnOf "law" "law" (defArgs st_law) (defBody st_law) (defScope st_law) .none kV9 dc9 pm9 an9 cd9 ct9), sl9⟩)
    (c9 : PySem.W.codeIn K cd9 "law" = true)
    (k9 : PySem.W.keepIn K (.ref f9) = true)
    (n_ValueError : PySem.W.nsIn K mainGlobals "ValueError" = some none)
    (n_abs : PySem.W.nsIn K mainGlobals "abs" = some none)
    (n_int : PySem.W.nsIn K mainGlobals "int" = some none)
    (n_isinstance : PySem.W.nsIn K mainGlobals "isinstance" = some none)
    (n_len : PySem.W.nsIn K mainGlobals "len" = some none)
    (n_range : PySem.W.nsIn K mainGlobals "range" = some none)
    (n_repr : PySem.W.nsIn K mainGlobals "repr" = some none)
    (g_MAX_ANSWERS : PySem.W.nsIn K mainGlobals "MAX_ANSWERS" = some (some (.int 200 t_MAX_ANSWERS)))
    (g_MAX_ARGUMENTS : PySem.W.nsIn K mainGlobals "MAX_ARGUMENTS" = some (some (.int 8 t_MAX_ARGUMENTS)))
    (g_MAX_CELLS : PySem.W.nsIn K mainGlobals "MAX_CELLS" = some (some (.int 30000 t_MAX_CELLS)))
    (g_MAX_CLAUSES : PySem.W.nsIn K mainGlobals "MAX_CLAUSES" = some (some (.int 80 t_MAX_CLAUSES)))
    (g_MAX_EVENTS : PySem.W.nsIn K mainGlobals "MAX_EVENTS" = some (some (.int 2000 t_MAX_EVENTS)))
    (g_MAX_LINES : PySem.W.nsIn K mainGlobals "MAX_LINES" = some (some (.int 200 t_MAX_LINES)))
    (g_MAX_NAME : PySem.W.nsIn K mainGlobals "MAX_NAME" = some (some (.int 16 t_MAX_NAME)))
    (g_MAX_NUMBER : PySem.W.nsIn K mainGlobals "MAX_NUMBER" = some (some (.int 1000000 t_MAX_NUMBER)))
    (g_MAX_SIZE : PySem.W.nsIn K mainGlobals "MAX_SIZE" = some (some (.int 300 t_MAX_SIZE)))
    (g_MAX_STEPS : PySem.W.nsIn K mainGlobals "MAX_STEPS" = some (some (.int 4000 t_MAX_STEPS)))
    (g_MAX_TABLE : PySem.W.nsIn K mainGlobals "MAX_TABLE" = some (some (.int 400 t_MAX_TABLE)))
    (g_MAX_TEXT : PySem.W.nsIn K mainGlobals "MAX_TEXT" = some (some (.int 8000 t_MAX_TEXT)))
    (g_MAX_WORK : PySem.W.nsIn K mainGlobals "MAX_WORK" = some (some (.int 400000 t_MAX_WORK)))
    (C_a_ArgumentError : PySem.W.nsIn K mainGlobals "ArgumentError" = some (some (.ref C_ArgumentError)))
    (C_a_PaperError : PySem.W.nsIn K mainGlobals "PaperError" = some (some (.ref C_PaperError)))
    (C_a_TooMany : PySem.W.nsIn K mainGlobals "TooMany" = some (some (.ref C_TooMany)))
    (C_a_CheckError : PySem.W.nsIn K mainGlobals "CheckError" = some (some (.ref C_CheckError)))
    (C_a_TextError : PySem.W.nsIn K mainGlobals "TextError" = some (some (.ref C_TextError)))
    (C_a_LogError : PySem.W.nsIn K mainGlobals "LogError" = some (some (.ref C_LogError)))
    (C_a_CommandError : PySem.W.nsIn K mainGlobals "CommandError" = some (some (.ref C_CommandError)))
    (C_a_ClauseError : PySem.W.nsIn K mainGlobals "ClauseError" = some (some (.ref C_ClauseError)))
    (C_a_ReasonError : PySem.W.nsIn K mainGlobals "ReasonError" = some (some (.ref C_ReasonError)))
    (oany : PySem.W.nsIn K cStatics "thirdparty.any" = some none)
    (n_super : PySem.W.nsIn K mainGlobals "super" = some none)
    (F_i_ReasonError : PySem.W.findIn K (.ref C_ReasonError) "__init__" = some (some (.ref fI_ReasonError)))
    (F_l_ReasonError : K.lookup fI_ReasonError = some ⟨oc_ReasonError, od_ReasonError, .func (PySem.W.ksFn "__init__" "ReasonError.__init__" (defArgs (inClass (top 2) 0)) (defBody (inClass (top 2) 0)) (defScope (inClass (top 2) 0)) .none .none dc_ReasonError pm_ReasonError an_ReasonError (.ref cda_ReasonError) ct_ReasonError cc_ReasonError), osl_ReasonError⟩)
    (F_c_ReasonError : PySem.W.codeIn K (.ref cda_ReasonError) "ReasonError.__init__" = true)
    (F_A_ReasonError : K.lookup cda_ReasonError = some ⟨ccl_ReasonError, cdd_ReasonError, .fields vs_ReasonError, ccs_ReasonError⟩)
    (F_v_ReasonError : vs_ReasonError[2]? = some (.str file_ReasonError tf_ReasonError))
    (F_f_ReasonError : ((prg.main.file : Str) == file_ReasonError) = true)
    (F_B_ReasonError : K.lookup cc_ReasonError = some ⟨cl_ReasonError, cld_ReasonError, .cell (some (.ref C_ReasonError)), csl_ReasonError⟩)
    (F_t_ReasonError : PySem.W.typeIn K (.ref fI_ReasonError) = some (.type "function"))
    (F_h_ReasonError : PySem.W.hasDictIn K C_ReasonError = true)
    (F_i_TextError : PySem.W.findIn K (.ref C_TextError) "__init__" = some (some (.ref fI_TextError)))
    (F_l_TextError : K.lookup fI_TextError = some ⟨oc_TextError, od_TextError, .func (PySem.W.ksFn "__init__" "TextError.__init__" (defArgs (inClass (top 7) 0)) (defBody (inClass (top 7) 0)) (defScope (inClass (top 7) 0)) .none .none dc_TextError pm_TextError an_TextError (.ref cda_TextError) ct_TextError cc_TextError), osl_TextError⟩)
    (F_c_TextError : PySem.W.codeIn K (.ref cda_TextError) "TextError.__init__" = true)
    (F_A_TextError : K.lookup cda_TextError = some ⟨ccl_TextError, cdd_TextError, .fields vs_TextError, ccs_TextError⟩)
    (F_v_TextError : vs_TextError[2]? = some (.str file_TextError tf_TextError))
    (F_f_TextError : ((prg.main.file : Str) == file_TextError) = true)
    (F_B_TextError : K.lookup cc_TextError = some ⟨cl_TextError, cld_TextError, .cell (some (.ref C_TextError)), csl_TextError⟩)
    (F_t_TextError : PySem.W.typeIn K (.ref fI_TextError) = some (.type "function"))
    (F_h_TextError : PySem.W.hasDictIn K C_TextError = true)
    (F_i_LogError : PySem.W.findIn K (.ref C_LogError) "__init__" = some (some (.ref fI_LogError)))
    (F_l_LogError : K.lookup fI_LogError = some ⟨oc_LogError, od_LogError, .func (PySem.W.ksFn "__init__" "LogError.__init__" (defArgs (inClass (top 8) 0)) (defBody (inClass (top 8) 0)) (defScope (inClass (top 8) 0)) .none .none dc_LogError pm_LogError an_LogError (.ref cda_LogError) ct_LogError cc_LogError), osl_LogError⟩)
    (F_c_LogError : PySem.W.codeIn K (.ref cda_LogError) "LogError.__init__" = true)
    (F_A_LogError : K.lookup cda_LogError = some ⟨ccl_LogError, cdd_LogError, .fields vs_LogError, ccs_LogError⟩)
    (F_v_LogError : vs_LogError[2]? = some (.str file_LogError tf_LogError))
    (F_f_LogError : ((prg.main.file : Str) == file_LogError) = true)
    (F_B_LogError : K.lookup cc_LogError = some ⟨cl_LogError, cld_LogError, .cell (some (.ref C_LogError)), csl_LogError⟩)
    (F_t_LogError : PySem.W.typeIn K (.ref fI_LogError) = some (.type "function"))
    (F_h_LogError : PySem.W.hasDictIn K C_LogError = true)
    (F_i_CommandError : PySem.W.findIn K (.ref C_CommandError) "__init__" = some (some (.ref fI_CommandError)))
    (F_l_CommandError : K.lookup fI_CommandError = some ⟨oc_CommandError, od_CommandError, .func (PySem.W.ksFn "__init__" "CommandError.__init__" (defArgs (inClass (top 9) 0)) (defBody (inClass (top 9) 0)) (defScope (inClass (top 9) 0)) .none .none dc_CommandError pm_CommandError an_CommandError (.ref cda_CommandError) ct_CommandError cc_CommandError), osl_CommandError⟩)
    (F_c_CommandError : PySem.W.codeIn K (.ref cda_CommandError) "CommandError.__init__" = true)
    (F_A_CommandError : K.lookup cda_CommandError = some ⟨ccl_CommandError, cdd_CommandError, .fields vs_CommandError, ccs_CommandError⟩)
    (F_v_CommandError : vs_CommandError[2]? = some (.str file_CommandError tf_CommandError))
    (F_f_CommandError : ((prg.main.file : Str) == file_CommandError) = true)
    (F_B_CommandError : K.lookup cc_CommandError = some ⟨cl_CommandError, cld_CommandError, .cell (some (.ref C_CommandError)), csl_CommandError⟩)
    (F_t_CommandError : PySem.W.typeIn K (.ref fI_CommandError) = some (.type "function"))
    (F_h_CommandError : PySem.W.hasDictIn K C_CommandError = true)
    (X_l_ArgumentError : K.lookup C_ArgumentError = some (excClassObj nm_ArgumentError qn_ArgumentError C_ArgumentError N_ArgumentError bs_ArgumentError bm_ArgumentError true sn_ArgumentError sub_ArgumentError ab_ArgumentError col_ArgumentError dd_ArgumentError k0_ArgumentError k1_ArgumentError k2_ArgumentError k3_ArgumentError k5_ArgumentError nI_ArgumentError))
    (X_t_ArgumentError : XTail bm_ArgumentError B_ArgumentError nI_ArgumentError iI_ArgumentError)
    (X_u_ArgumentError : PySem.W.ks_superIn K C_ArgumentError C_ReasonError "__init__" = some (some (.builtin iI_ArgumentError)))
    (X_s_ArgumentError : PySem.W.subIn K (.ref C_ArgumentError) (.type B_ArgumentError) = some true)
    (X_a_ArgumentError : PySem.W.findIn K (.ref C_ArgumentError) "__setattr__" = some (some (.builtin "object.__setattr__")))
    (X_g_ArgumentError : PySem.W.findIn K (.ref C_ArgumentError) "__getattribute__" = some (some (.builtin "BaseException.__getattribute__")))
    (X_h_ArgumentError : PySem.W.findIn K (.ref C_ArgumentError) "__getattr__" = some none)
    (X_n_reason_ArgumentError : PySem.W.findIn K (.ref C_ArgumentError) "reason" = some none)
    (X_b_ArgumentError : PySem.W.subIn K (.ref C_ArgumentError) (.type "BaseException") = some true)
    (X_d_ArgumentError : PySem.W.hasDictIn K C_ArgumentError = true)
    (X_i_ArgumentError : PySem.W.findIn K (.ref C_ArgumentError) "__init__" = some (some (.ref fI_ReasonError)))
    (X_k_ArgumentError : PySem.W.keepIn K (.ref C_ArgumentError) = true)
    (X_y_ArgumentError : PySem.W.typeIn K (.ref C_ArgumentError) = some (.type "type"))
    (X_m_ArgumentError : PySem.W.mroIn K C_ArgumentError (.ref C_ReasonError) = some true)
    (X_l_PaperError : K.lookup C_PaperError = some (excClassObj nm_PaperError qn_PaperError C_PaperError N_PaperError bs_PaperError bm_PaperError true sn_PaperError sub_PaperError ab_PaperError col_PaperError dd_PaperError k0_PaperError k1_PaperError k2_PaperError k3_PaperError k5_PaperError nI_PaperError))
    (X_t_PaperError : XTail bm_PaperError B_PaperError nI_PaperError iI_PaperError)
    (X_u_PaperError : PySem.W.ks_superIn K C_PaperError C_ReasonError "__init__" = some (some (.builtin iI_PaperError)))
    (X_s_PaperError : PySem.W.subIn K (.ref C_PaperError) (.type B_PaperError) = some true)
    (X_a_PaperError : PySem.W.findIn K (.ref C_PaperError) "__setattr__" = some (some (.builtin "object.__setattr__")))
    (X_g_PaperError : PySem.W.findIn K (.ref C_PaperError) "__getattribute__" = some (some (.builtin "BaseException.__getattribute__")))
    (X_h_PaperError : PySem.W.findIn K (.ref C_PaperError) "__getattr__" = some none)
    (X_n_reason_PaperError : PySem.W.findIn K (.ref C_PaperError) "reason" = some none)
    (X_b_PaperError : PySem.W.subIn K (.ref C_PaperError) (.type "BaseException") = some true)
    (X_d_PaperError : PySem.W.hasDictIn K C_PaperError = true)
    (X_i_PaperError : PySem.W.findIn K (.ref C_PaperError) "__init__" = some (some (.ref fI_ReasonError)))
    (X_k_PaperError : PySem.W.keepIn K (.ref C_PaperError) = true)
    (X_y_PaperError : PySem.W.typeIn K (.ref C_PaperError) = some (.type "type"))
    (X_m_PaperError : PySem.W.mroIn K C_PaperError (.ref C_ReasonError) = some true)
    (X_l_TooMany : K.lookup C_TooMany = some (excClassObj nm_TooMany qn_TooMany C_TooMany N_TooMany bs_TooMany bm_TooMany true sn_TooMany sub_TooMany ab_TooMany col_TooMany dd_TooMany k0_TooMany k1_TooMany k2_TooMany k3_TooMany k5_TooMany nI_TooMany))
    (X_t_TooMany : XTail bm_TooMany B_TooMany nI_TooMany iI_TooMany)
    (X_u_TooMany : PySem.W.ks_superIn K C_TooMany C_ReasonError "__init__" = some (some (.builtin iI_TooMany)))
    (X_s_TooMany : PySem.W.subIn K (.ref C_TooMany) (.type B_TooMany) = some true)
    (X_a_TooMany : PySem.W.findIn K (.ref C_TooMany) "__setattr__" = some (some (.builtin "object.__setattr__")))
    (X_g_TooMany : PySem.W.findIn K (.ref C_TooMany) "__getattribute__" = some (some (.builtin "BaseException.__getattribute__")))
    (X_h_TooMany : PySem.W.findIn K (.ref C_TooMany) "__getattr__" = some none)
    (X_n_reason_TooMany : PySem.W.findIn K (.ref C_TooMany) "reason" = some none)
    (X_b_TooMany : PySem.W.subIn K (.ref C_TooMany) (.type "BaseException") = some true)
    (X_d_TooMany : PySem.W.hasDictIn K C_TooMany = true)
    (X_i_TooMany : PySem.W.findIn K (.ref C_TooMany) "__init__" = some (some (.ref fI_ReasonError)))
    (X_k_TooMany : PySem.W.keepIn K (.ref C_TooMany) = true)
    (X_y_TooMany : PySem.W.typeIn K (.ref C_TooMany) = some (.type "type"))
    (X_m_TooMany : PySem.W.mroIn K C_TooMany (.ref C_ReasonError) = some true)
    (X_l_CheckError : K.lookup C_CheckError = some (excClassObj nm_CheckError qn_CheckError C_CheckError N_CheckError bs_CheckError bm_CheckError true sn_CheckError sub_CheckError ab_CheckError col_CheckError dd_CheckError k0_CheckError k1_CheckError k2_CheckError k3_CheckError k5_CheckError nI_CheckError))
    (X_t_CheckError : XTail bm_CheckError B_CheckError nI_CheckError iI_CheckError)
    (X_u_CheckError : PySem.W.ks_superIn K C_CheckError C_ReasonError "__init__" = some (some (.builtin iI_CheckError)))
    (X_s_CheckError : PySem.W.subIn K (.ref C_CheckError) (.type B_CheckError) = some true)
    (X_a_CheckError : PySem.W.findIn K (.ref C_CheckError) "__setattr__" = some (some (.builtin "object.__setattr__")))
    (X_g_CheckError : PySem.W.findIn K (.ref C_CheckError) "__getattribute__" = some (some (.builtin "BaseException.__getattribute__")))
    (X_h_CheckError : PySem.W.findIn K (.ref C_CheckError) "__getattr__" = some none)
    (X_n_reason_CheckError : PySem.W.findIn K (.ref C_CheckError) "reason" = some none)
    (X_b_CheckError : PySem.W.subIn K (.ref C_CheckError) (.type "BaseException") = some true)
    (X_d_CheckError : PySem.W.hasDictIn K C_CheckError = true)
    (X_i_CheckError : PySem.W.findIn K (.ref C_CheckError) "__init__" = some (some (.ref fI_ReasonError)))
    (X_k_CheckError : PySem.W.keepIn K (.ref C_CheckError) = true)
    (X_y_CheckError : PySem.W.typeIn K (.ref C_CheckError) = some (.type "type"))
    (X_m_CheckError : PySem.W.mroIn K C_CheckError (.ref C_ReasonError) = some true)
    (X_l_TextError : K.lookup C_TextError = some (excClassObj nm_TextError qn_TextError C_TextError N_TextError bs_TextError bm_TextError true sn_TextError sub_TextError ab_TextError col_TextError dd_TextError k0_TextError k1_TextError k2_TextError k3_TextError k5_TextError nI_TextError))
    (X_t_TextError : XTail bm_TextError B_TextError nI_TextError iI_TextError)
    (X_u_TextError : PySem.W.ks_superIn K C_TextError C_TextError "__init__" = some (some (.builtin iI_TextError)))
    (X_s_TextError : PySem.W.subIn K (.ref C_TextError) (.type B_TextError) = some true)
    (X_a_TextError : PySem.W.findIn K (.ref C_TextError) "__setattr__" = some (some (.builtin "object.__setattr__")))
    (X_g_TextError : PySem.W.findIn K (.ref C_TextError) "__getattribute__" = some (some (.builtin "BaseException.__getattribute__")))
    (X_h_TextError : PySem.W.findIn K (.ref C_TextError) "__getattr__" = some none)
    (X_n_at_TextError : PySem.W.findIn K (.ref C_TextError) "at" = some none)
    (X_b_TextError : PySem.W.subIn K (.ref C_TextError) (.type "BaseException") = some true)
    (X_d_TextError : PySem.W.hasDictIn K C_TextError = true)
    (X_i_TextError : PySem.W.findIn K (.ref C_TextError) "__init__" = some (some (.ref fI_TextError)))
    (X_k_TextError : PySem.W.keepIn K (.ref C_TextError) = true)
    (X_y_TextError : PySem.W.typeIn K (.ref C_TextError) = some (.type "type"))
    (X_m_TextError : PySem.W.mroIn K C_TextError (.ref C_TextError) = some true)
    (X_l_LogError : K.lookup C_LogError = some (excClassObj nm_LogError qn_LogError C_LogError N_LogError bs_LogError bm_LogError true sn_LogError sub_LogError ab_LogError col_LogError dd_LogError k0_LogError k1_LogError k2_LogError k3_LogError k5_LogError nI_LogError))
    (X_t_LogError : HandSPX.refsVE bm_LogError = true ∧ nI_LogError = "ValueError.__new__" ∧ iI_LogError = "ValueError.__init__" ∧ B_LogError = "ValueError")
    (X_u_LogError : PySem.W.ks_superIn K C_LogError C_LogError "__init__" = some (some (.builtin iI_LogError)))
    (X_s_LogError : PySem.W.subIn K (.ref C_LogError) (.type B_LogError) = some true)
    (X_a_LogError : PySem.W.findIn K (.ref C_LogError) "__setattr__" = some (some (.builtin "object.__setattr__")))
    (X_g_LogError : PySem.W.findIn K (.ref C_LogError) "__getattribute__" = some (some (.builtin "BaseException.__getattribute__")))
    (X_h_LogError : PySem.W.findIn K (.ref C_LogError) "__getattr__" = some none)
    (X_n_number_LogError : PySem.W.findIn K (.ref C_LogError) "number" = some none)
    (X_n_reason_LogError : PySem.W.findIn K (.ref C_LogError) "reason" = some none)
    (X_b_LogError : PySem.W.subIn K (.ref C_LogError) (.type "BaseException") = some true)
    (X_d_LogError : PySem.W.hasDictIn K C_LogError = true)
    (X_i_LogError : PySem.W.findIn K (.ref C_LogError) "__init__" = some (some (.ref fI_LogError)))
    (X_k_LogError : PySem.W.keepIn K (.ref C_LogError) = true)
    (X_y_LogError : PySem.W.typeIn K (.ref C_LogError) = some (.type "type"))
    (X_m_LogError : PySem.W.mroIn K C_LogError (.ref C_LogError) = some true)
    (X_l_CommandError : K.lookup C_CommandError = some (excClassObj nm_CommandError qn_CommandError C_CommandError N_CommandError bs_CommandError bm_CommandError true sn_CommandError sub_CommandError ab_CommandError col_CommandError dd_CommandError k0_CommandError k1_CommandError k2_CommandError k3_CommandError k5_CommandError nI_CommandError))
    (X_t_CommandError : XTail bm_CommandError B_CommandError nI_CommandError iI_CommandError)
    (X_u_CommandError : PySem.W.ks_superIn K C_CommandError C_CommandError "__init__" = some (some (.builtin iI_CommandError)))
    (X_s_CommandError : PySem.W.subIn K (.ref C_CommandError) (.type B_CommandError) = some true)
    (X_a_CommandError : PySem.W.findIn K (.ref C_CommandError) "__setattr__" = some (some (.builtin "object.__setattr__")))
    (X_g_CommandError : PySem.W.findIn K (.ref C_CommandError) "__getattribute__" = some (some (.builtin "BaseException.__getattribute__")))
    (X_h_CommandError : PySem.W.findIn K (.ref C_CommandError) "__getattr__" = some none)
    (X_n_line_CommandError : PySem.W.findIn K (.ref C_CommandError) "line" = some none)
    (X_b_CommandError : PySem.W.subIn K (.ref C_CommandError) (.type "BaseException") = some true)
    (X_d_CommandError : PySem.W.hasDictIn K C_CommandError = true)
    (X_i_CommandError : PySem.W.findIn K (.ref C_CommandError) "__init__" = some (some (.ref fI_CommandError)))
    (X_k_CommandError : PySem.W.keepIn K (.ref C_CommandError) = true)
    (X_y_CommandError : PySem.W.typeIn K (.ref C_CommandError) = some (.type "type"))
    (X_m_CommandError : PySem.W.mroIn K C_CommandError (.ref C_CommandError) = some true)
    (E_n : PySem.W.specialIn K (.builtin "object.__class__") "__get__" = some (some (.builtin "getset_descriptor.__get__")))
    (E_t : PySem.W.takesIn K (.builtin "object.__class__") = some true)
    (E_a_ArgumentError : PySem.W.findIn K (.ref C_ArgumentError) "__class__" = some (some (.builtin "object.__class__")))
    (E_m_ArgumentError : PySem.W.mroIn K C_ArgumentError (.type "object") = some true)
    (E_a_PaperError : PySem.W.findIn K (.ref C_PaperError) "__class__" = some (some (.builtin "object.__class__")))
    (E_m_PaperError : PySem.W.mroIn K C_PaperError (.type "object") = some true)
    (E_a_TooMany : PySem.W.findIn K (.ref C_TooMany) "__class__" = some (some (.builtin "object.__class__")))
    (E_m_TooMany : PySem.W.mroIn K C_TooMany (.type "object") = some true)
    (E_a_CheckError : PySem.W.findIn K (.ref C_CheckError) "__class__" = some (some (.builtin "object.__class__")))
    (E_m_CheckError : PySem.W.mroIn K C_CheckError (.type "object") = some true)
    (E_a_TextError : PySem.W.findIn K (.ref C_TextError) "__class__" = some (some (.builtin "object.__class__")))
    (E_m_TextError : PySem.W.mroIn K C_TextError (.type "object") = some true)
    (E_a_LogError : PySem.W.findIn K (.ref C_LogError) "__class__" = some (some (.builtin "object.__class__")))
    (E_m_LogError : PySem.W.mroIn K C_LogError (.type "object") = some true)
    (E_a_CommandError : PySem.W.findIn K (.ref C_CommandError) "__class__" = some (some (.builtin "object.__class__")))
    (E_m_CommandError : PySem.W.mroIn K C_CommandError (.type "object") = some true)
    (K_b_ArgumentError : PySem.W.subIn K (.ref C_ArgumentError) (.type "BaseException") = some true)
    (K_d_ArgumentError : PySem.W.hasDictIn K C_ArgumentError = true)
    (K_y_ArgumentError : PySem.W.typeIn K (.ref C_ArgumentError) = some (.type "type"))
    (K_s_ArgumentError_ArgumentError : PySem.W.subIn K (.ref C_ArgumentError) (.ref C_ArgumentError) = some true)
    (K_s_PaperError_ArgumentError : PySem.W.subIn K (.ref C_PaperError) (.ref C_ArgumentError) = some false)
    (K_s_TooMany_ArgumentError : PySem.W.subIn K (.ref C_TooMany) (.ref C_ArgumentError) = some false)
    (K_s_CheckError_ArgumentError : PySem.W.subIn K (.ref C_CheckError) (.ref C_ArgumentError) = some false)
    (K_s_TextError_ArgumentError : PySem.W.subIn K (.ref C_TextError) (.ref C_ArgumentError) = some false)
    (K_s_LogError_ArgumentError : PySem.W.subIn K (.ref C_LogError) (.ref C_ArgumentError) = some false)
    (K_s_CommandError_ArgumentError : PySem.W.subIn K (.ref C_CommandError) (.ref C_ArgumentError) = some false)
    (K_b_CheckError : PySem.W.subIn K (.ref C_CheckError) (.type "BaseException") = some true)
    (K_d_CheckError : PySem.W.hasDictIn K C_CheckError = true)
    (K_y_CheckError : PySem.W.typeIn K (.ref C_CheckError) = some (.type "type"))
    (K_s_ArgumentError_CheckError : PySem.W.subIn K (.ref C_ArgumentError) (.ref C_CheckError) = some false)
    (K_s_PaperError_CheckError : PySem.W.subIn K (.ref C_PaperError) (.ref C_CheckError) = some false)
    (K_s_TooMany_CheckError : PySem.W.subIn K (.ref C_TooMany) (.ref C_CheckError) = some false)
    (K_s_CheckError_CheckError : PySem.W.subIn K (.ref C_CheckError) (.ref C_CheckError) = some true)
    (K_s_TextError_CheckError : PySem.W.subIn K (.ref C_TextError) (.ref C_CheckError) = some false)
    (K_s_LogError_CheckError : PySem.W.subIn K (.ref C_LogError) (.ref C_CheckError) = some false)
    (K_s_CommandError_CheckError : PySem.W.subIn K (.ref C_CommandError) (.ref C_CheckError) = some false)
    (K_b_CommandError : PySem.W.subIn K (.ref C_CommandError) (.type "BaseException") = some true)
    (K_d_CommandError : PySem.W.hasDictIn K C_CommandError = true)
    (K_y_CommandError : PySem.W.typeIn K (.ref C_CommandError) = some (.type "type"))
    (K_s_ArgumentError_CommandError : PySem.W.subIn K (.ref C_ArgumentError) (.ref C_CommandError) = some false)
    (K_s_PaperError_CommandError : PySem.W.subIn K (.ref C_PaperError) (.ref C_CommandError) = some false)
    (K_s_TooMany_CommandError : PySem.W.subIn K (.ref C_TooMany) (.ref C_CommandError) = some false)
    (K_s_CheckError_CommandError : PySem.W.subIn K (.ref C_CheckError) (.ref C_CommandError) = some false)
    (K_s_TextError_CommandError : PySem.W.subIn K (.ref C_TextError) (.ref C_CommandError) = some false)
    (K_s_LogError_CommandError : PySem.W.subIn K (.ref C_LogError) (.ref C_CommandError) = some false)
    (K_s_CommandError_CommandError : PySem.W.subIn K (.ref C_CommandError) (.ref C_CommandError) = some true)
    (K_b_LogError : PySem.W.subIn K (.ref C_LogError) (.type "BaseException") = some true)
    (K_d_LogError : PySem.W.hasDictIn K C_LogError = true)
    (K_y_LogError : PySem.W.typeIn K (.ref C_LogError) = some (.type "type"))
    (K_s_ArgumentError_LogError : PySem.W.subIn K (.ref C_ArgumentError) (.ref C_LogError) = some false)
    (K_s_PaperError_LogError : PySem.W.subIn K (.ref C_PaperError) (.ref C_LogError) = some false)
    (K_s_TooMany_LogError : PySem.W.subIn K (.ref C_TooMany) (.ref C_LogError) = some false)
    (K_s_CheckError_LogError : PySem.W.subIn K (.ref C_CheckError) (.ref C_LogError) = some false)
    (K_s_TextError_LogError : PySem.W.subIn K (.ref C_TextError) (.ref C_LogError) = some false)
    (K_s_LogError_LogError : PySem.W.subIn K (.ref C_LogError) (.ref C_LogError) = some true)
    (K_s_CommandError_LogError : PySem.W.subIn K (.ref C_CommandError) (.ref C_LogError) = some false)
    (K_b_PaperError : PySem.W.subIn K (.ref C_PaperError) (.type "BaseException") = some true)
    (K_d_PaperError : PySem.W.hasDictIn K C_PaperError = true)
    (K_y_PaperError : PySem.W.typeIn K (.ref C_PaperError) = some (.type "type"))
    (K_s_ArgumentError_PaperError : PySem.W.subIn K (.ref C_ArgumentError) (.ref C_PaperError) = some false)
    (K_s_PaperError_PaperError : PySem.W.subIn K (.ref C_PaperError) (.ref C_PaperError) = some true)
    (K_s_TooMany_PaperError : PySem.W.subIn K (.ref C_TooMany) (.ref C_PaperError) = some false)
    (K_s_CheckError_PaperError : PySem.W.subIn K (.ref C_CheckError) (.ref C_PaperError) = some false)
    (K_s_TextError_PaperError : PySem.W.subIn K (.ref C_TextError) (.ref C_PaperError) = some false)
    (K_s_LogError_PaperError : PySem.W.subIn K (.ref C_LogError) (.ref C_PaperError) = some false)
    (K_s_CommandError_PaperError : PySem.W.subIn K (.ref C_CommandError) (.ref C_PaperError) = some false)
    (K_b_TextError : PySem.W.subIn K (.ref C_TextError) (.type "BaseException") = some true)
    (K_d_TextError : PySem.W.hasDictIn K C_TextError = true)
    (K_y_TextError : PySem.W.typeIn K (.ref C_TextError) = some (.type "type"))
    (K_s_ArgumentError_TextError : PySem.W.subIn K (.ref C_ArgumentError) (.ref C_TextError) = some false)
    (K_s_PaperError_TextError : PySem.W.subIn K (.ref C_PaperError) (.ref C_TextError) = some false)
    (K_s_TooMany_TextError : PySem.W.subIn K (.ref C_TooMany) (.ref C_TextError) = some false)
    (K_s_CheckError_TextError : PySem.W.subIn K (.ref C_CheckError) (.ref C_TextError) = some false)
    (K_s_TextError_TextError : PySem.W.subIn K (.ref C_TextError) (.ref C_TextError) = some true)
    (K_s_LogError_TextError : PySem.W.subIn K (.ref C_LogError) (.ref C_TextError) = some false)
    (K_s_CommandError_TextError : PySem.W.subIn K (.ref C_CommandError) (.ref C_TextError) = some false)
    (K_b_TooMany : PySem.W.subIn K (.ref C_TooMany) (.type "BaseException") = some true)
    (K_d_TooMany : PySem.W.hasDictIn K C_TooMany = true)
    (K_y_TooMany : PySem.W.typeIn K (.ref C_TooMany) = some (.type "type"))
    (K_s_ArgumentError_TooMany : PySem.W.subIn K (.ref C_ArgumentError) (.ref C_TooMany) = some false)
    (K_s_PaperError_TooMany : PySem.W.subIn K (.ref C_PaperError) (.ref C_TooMany) = some false)
    (K_s_TooMany_TooMany : PySem.W.subIn K (.ref C_TooMany) (.ref C_TooMany) = some true)
    (K_s_CheckError_TooMany : PySem.W.subIn K (.ref C_CheckError) (.ref C_TooMany) = some false)
    (K_s_TextError_TooMany : PySem.W.subIn K (.ref C_TextError) (.ref C_TooMany) = some false)
    (K_s_LogError_TooMany : PySem.W.subIn K (.ref C_LogError) (.ref C_TooMany) = some false)
    (K_s_CommandError_TooMany : PySem.W.subIn K (.ref C_CommandError) (.ref C_TooMany) = some false)
    (K_s_ArgumentError_ValueError : PySem.W.subIn K (.ref C_ArgumentError) (.type "ValueError") = some true)
    (K_s_PaperError_ValueError : PySem.W.subIn K (.ref C_PaperError) (.type "ValueError") = some true)
    (K_s_TooMany_ValueError : PySem.W.subIn K (.ref C_TooMany) (.type "ValueError") = some true)
    (K_s_CheckError_ValueError : PySem.W.subIn K (.ref C_CheckError) (.type "ValueError") = some true)
    (K_s_TextError_ValueError : PySem.W.subIn K (.ref C_TextError) (.type "ValueError") = some true)
    (K_s_LogError_ValueError : PySem.W.subIn K (.ref C_LogError) (.type "ValueError") = some true)
    (K_s_CommandError_ValueError : PySem.W.subIn K (.ref C_CommandError) (.type "ValueError") = some true)
    (K_b_ClauseError : PySem.W.subIn K (.ref C_ClauseError) (.type "BaseException") = some true)
    (K_d_ClauseError : PySem.W.hasDictIn K C_ClauseError = true)
    (K_y_ClauseError : PySem.W.typeIn K (.ref C_ClauseError) = some (.type "type"))
    (K_s_ArgumentError_ClauseError : PySem.W.subIn K (.ref C_ArgumentError) (.ref C_ClauseError) = some true)
    (K_s_PaperError_ClauseError : PySem.W.subIn K (.ref C_PaperError) (.ref C_ClauseError) = some true)
    (K_s_TooMany_ClauseError : PySem.W.subIn K (.ref C_TooMany) (.ref C_ClauseError) = some true)
    (K_s_CheckError_ClauseError : PySem.W.subIn K (.ref C_CheckError) (.ref C_ClauseError) = some true)
    (K_s_TextError_ClauseError : PySem.W.subIn K (.ref C_TextError) (.ref C_ClauseError) = some true)
    (K_s_LogError_ClauseError : PySem.W.subIn K (.ref C_LogError) (.ref C_ClauseError) = some true)
    (K_s_CommandError_ClauseError : PySem.W.subIn K (.ref C_CommandError) (.ref C_ClauseError) = some true)
    (K_e_PaperError_ArgumentError : (Value.ref C_PaperError == Value.ref C_ArgumentError) = false)
    (K_e_TooMany_ArgumentError : (Value.ref C_TooMany == Value.ref C_ArgumentError) = false)
    (K_e_CheckError_ArgumentError : (Value.ref C_CheckError == Value.ref C_ArgumentError) = false)
    (K_e_TextError_ArgumentError : (Value.ref C_TextError == Value.ref C_ArgumentError) = false)
    (K_e_LogError_ArgumentError : (Value.ref C_LogError == Value.ref C_ArgumentError) = false)
    (K_e_CommandError_ArgumentError : (Value.ref C_CommandError == Value.ref C_ArgumentError) = false)
    (K_e_ArgumentError_CheckError : (Value.ref C_ArgumentError == Value.ref C_CheckError) = false)
    (K_e_PaperError_CheckError : (Value.ref C_PaperError == Value.ref C_CheckError) = false)
    (K_e_TooMany_CheckError : (Value.ref C_TooMany == Value.ref C_CheckError) = false)
    (K_e_TextError_CheckError : (Value.ref C_TextError == Value.ref C_CheckError) = false)
    (K_e_LogError_CheckError : (Value.ref C_LogError == Value.ref C_CheckError) = false)
    (K_e_CommandError_CheckError : (Value.ref C_CommandError == Value.ref C_CheckError) = false)
    (K_e_ArgumentError_CommandError : (Value.ref C_ArgumentError == Value.ref C_CommandError) = false)
    (K_e_PaperError_CommandError : (Value.ref C_PaperError == Value.ref C_CommandError) = false)
    (K_e_TooMany_CommandError : (Value.ref C_TooMany == Value.ref C_CommandError) = false)
    (K_e_CheckError_CommandError : (Value.ref C_CheckError == Value.ref C_CommandError) = false)
    (K_e_TextError_CommandError : (Value.ref C_TextError == Value.ref C_CommandError) = false)
    (K_e_LogError_CommandError : (Value.ref C_LogError == Value.ref C_CommandError) = false)
    (K_e_ArgumentError_LogError : (Value.ref C_ArgumentError == Value.ref C_LogError) = false)
    (K_e_PaperError_LogError : (Value.ref C_PaperError == Value.ref C_LogError) = false)
    (K_e_TooMany_LogError : (Value.ref C_TooMany == Value.ref C_LogError) = false)
    (K_e_CheckError_LogError : (Value.ref C_CheckError == Value.ref C_LogError) = false)
    (K_e_TextError_LogError : (Value.ref C_TextError == Value.ref C_LogError) = false)
    (K_e_CommandError_LogError : (Value.ref C_CommandError == Value.ref C_LogError) = false)
    (K_e_ArgumentError_PaperError : (Value.ref C_ArgumentError == Value.ref C_PaperError) = false)
    (K_e_TooMany_PaperError : (Value.ref C_TooMany == Value.ref C_PaperError) = false)
    (K_e_CheckError_PaperError : (Value.ref C_CheckError == Value.ref C_PaperError) = false)
    (K_e_TextError_PaperError : (Value.ref C_TextError == Value.ref C_PaperError) = false)
    (K_e_LogError_PaperError : (Value.ref C_LogError == Value.ref C_PaperError) = false)
    (K_e_CommandError_PaperError : (Value.ref C_CommandError == Value.ref C_PaperError) = false)
    (K_e_ArgumentError_TextError : (Value.ref C_ArgumentError == Value.ref C_TextError) = false)
    (K_e_PaperError_TextError : (Value.ref C_PaperError == Value.ref C_TextError) = false)
    (K_e_TooMany_TextError : (Value.ref C_TooMany == Value.ref C_TextError) = false)
    (K_e_CheckError_TextError : (Value.ref C_CheckError == Value.ref C_TextError) = false)
    (K_e_LogError_TextError : (Value.ref C_LogError == Value.ref C_TextError) = false)
    (K_e_CommandError_TextError : (Value.ref C_CommandError == Value.ref C_TextError) = false)
    (K_e_ArgumentError_TooMany : (Value.ref C_ArgumentError == Value.ref C_TooMany) = false)
    (K_e_PaperError_TooMany : (Value.ref C_PaperError == Value.ref C_TooMany) = false)
    (K_e_CheckError_TooMany : (Value.ref C_CheckError == Value.ref C_TooMany) = false)
    (K_e_TextError_TooMany : (Value.ref C_TextError == Value.ref C_TooMany) = false)
    (K_e_LogError_TooMany : (Value.ref C_LogError == Value.ref C_TooMany) = false)
    (K_e_CommandError_TooMany : (Value.ref C_CommandError == Value.ref C_TooMany) = false)
    : ∃ (fd : FuncData) (Γ : Cfg), Γ.K = K ∧ Γ.cur = none ∧ (∀ (s : Shared) (u : Value), BindsTo s fd ⟨[u], []⟩ [("script", u)]) ∧ ∀ B : Heap, K.In B → B.Ns mainGlobals mg → FnG prg w K mg B (60 + 150) fa fd ["script"] (spOf Γ (sem 150 9)) := by
  have e : f9 = fa := by
    have e := hfa.symm.trans (PySem.W.mg_of X G a9)
    cases e
    rfl
  have F0 := fun_mk (st := st__law_draws) l0 c0 k0
  have b0 := F0.binds (ps := ["script"]) fun _ _ _ _ _ _ us hl => match us, hl with | [_], _ => rfl
  have F1 := fun_mk (st := st__law_more) l1 c1 k1
  have b1 := F1.binds (ps := ["draws", "place"]) fun _ _ _ _ _ _ us hl => match us, hl with | [_, _], _ => rfl
  have F2 := fun_mk (st := st__law_take) l2 c2 k2
  have b2 := F2.binds (ps := ["draws", "at", "many"]) fun _ _ _ _ _ _ us hl => match us, hl with | [_, _, _], _ => rfl
  have F3 := fun_mk (st := st__law_one) l3 c3 k3
  have b3 := F3.binds (ps := ["rows", "draws", "at"]) fun _ _ _ _ _ _ us hl => match us, hl with | [_, _, _], _ => rfl
  have F4 := fun_mk (st := st__law_limits_right) l4 c4 k4
  have b4 := F4.binds (ps := []) fun _ _ _ _ _ _ us hl => match us, hl with | [], _ => rfl
  have F5 := fun_mk (st := st__law_raise) l5 c5 k5
  have b5 := F5.binds (ps := ["k", "one", "other"]) fun _ _ _ _ _ _ us hl => match us, hl with | [_, _, _], _ => rfl
  have F6 := fun_mk (st := st__law_kinds) l6 c6 k6
  have b6 := F6.binds (ps := ["e"]) fun _ _ _ _ _ _ us hl => match us, hl with | [_], _ => rfl
  have F7 := fun_mk (st := st__law_caught) l7 c7 k7
  have b7 := F7.binds (ps := ["k", "one", "other"]) fun _ _ _ _ _ _ us hl => match us, hl with | [_, _, _], _ => rfl
  have F8 := fun_mk (st := st__law_fields) l8 c8 k8
  have b8 := F8.binds (ps := ["k", "one", "other"]) fun _ _ _ _ _ _ us hl => match us, hl with | [_, _, _], _ => rfl
  have F9 := fun_mk (st := st_law) l9 c9 k9
  have b9 := F9.binds (ps := ["script"]) fun _ _ _ _ _ _ us hl => match us, hl with | [_], _ => rfl
  have R_reason_ArgumentError : XRd K C_ArgumentError "reason" := ⟨X_g_ArgumentError, X_h_ArgumentError, X_n_reason_ArgumentError, X_b_ArgumentError, X_d_ArgumentError⟩
  have Z_ArgumentError : XTxt prg K mg C_ArgumentError C_ReasonError fI_ReasonError "reason" := xtxt_mk X_l_ArgumentError X_t_ArgumentError X_u_ArgumentError X_s_ArgumentError X_a_ArgumentError R_reason_ArgumentError X_i_ArgumentError F_t_ReasonError X_k_ArgumentError X_y_ArgumentError oany (by rfl) (PySem.W.mg_none_of X G n_super) X_m_ArgumentError F_h_ReasonError (by first | exact Or.inl rfl | exact Or.inr (Or.inl rfl) | exact Or.inr (Or.inr (Or.inl rfl)) | exact Or.inr (Or.inr (Or.inr rfl))) F_l_ReasonError F_c_ReasonError F_A_ReasonError F_v_ReasonError (by rfl) F_f_ReasonError F_B_ReasonError
  have E_ArgumentError : ExcC K C_ArgumentError := ⟨X_g_ArgumentError, X_h_ArgumentError, X_b_ArgumentError, X_d_ArgumentError, E_a_ArgumentError, E_n, E_t, E_m_ArgumentError⟩
  have R_reason_PaperError : XRd K C_PaperError "reason" := ⟨X_g_PaperError, X_h_PaperError, X_n_reason_PaperError, X_b_PaperError, X_d_PaperError⟩
  have Z_PaperError : XTxt prg K mg C_PaperError C_ReasonError fI_ReasonError "reason" := xtxt_mk X_l_PaperError X_t_PaperError X_u_PaperError X_s_PaperError X_a_PaperError R_reason_PaperError X_i_PaperError F_t_ReasonError X_k_PaperError X_y_PaperError oany (by rfl) (PySem.W.mg_none_of X G n_super) X_m_PaperError F_h_ReasonError (by first | exact Or.inl rfl | exact Or.inr (Or.inl rfl) | exact Or.inr (Or.inr (Or.inl rfl)) | exact Or.inr (Or.inr (Or.inr rfl))) F_l_ReasonError F_c_ReasonError F_A_ReasonError F_v_ReasonError (by rfl) F_f_ReasonError F_B_ReasonError
  have E_PaperError : ExcC K C_PaperError := ⟨X_g_PaperError, X_h_PaperError, X_b_PaperError, X_d_PaperError, E_a_PaperError, E_n, E_t, E_m_PaperError⟩
  have R_reason_TooMany : XRd K C_TooMany "reason" := ⟨X_g_TooMany, X_h_TooMany, X_n_reason_TooMany, X_b_TooMany, X_d_TooMany⟩
  have Z_TooMany : XTxt prg K mg C_TooMany C_ReasonError fI_ReasonError "reason" := xtxt_mk X_l_TooMany X_t_TooMany X_u_TooMany X_s_TooMany X_a_TooMany R_reason_TooMany X_i_TooMany F_t_ReasonError X_k_TooMany X_y_TooMany oany (by rfl) (PySem.W.mg_none_of X G n_super) X_m_TooMany F_h_ReasonError (by first | exact Or.inl rfl | exact Or.inr (Or.inl rfl) | exact Or.inr (Or.inr (Or.inl rfl)) | exact Or.inr (Or.inr (Or.inr rfl))) F_l_ReasonError F_c_ReasonError F_A_ReasonError F_v_ReasonError (by rfl) F_f_ReasonError F_B_ReasonError
  have E_TooMany : ExcC K C_TooMany := ⟨X_g_TooMany, X_h_TooMany, X_b_TooMany, X_d_TooMany, E_a_TooMany, E_n, E_t, E_m_TooMany⟩
  have R_reason_CheckError : XRd K C_CheckError "reason" := ⟨X_g_CheckError, X_h_CheckError, X_n_reason_CheckError, X_b_CheckError, X_d_CheckError⟩
  have Z_CheckError : XTxt prg K mg C_CheckError C_ReasonError fI_ReasonError "reason" := xtxt_mk X_l_CheckError X_t_CheckError X_u_CheckError X_s_CheckError X_a_CheckError R_reason_CheckError X_i_CheckError F_t_ReasonError X_k_CheckError X_y_CheckError oany (by rfl) (PySem.W.mg_none_of X G n_super) X_m_CheckError F_h_ReasonError (by first | exact Or.inl rfl | exact Or.inr (Or.inl rfl) | exact Or.inr (Or.inr (Or.inl rfl)) | exact Or.inr (Or.inr (Or.inr rfl))) F_l_ReasonError F_c_ReasonError F_A_ReasonError F_v_ReasonError (by rfl) F_f_ReasonError F_B_ReasonError
  have E_CheckError : ExcC K C_CheckError := ⟨X_g_CheckError, X_h_CheckError, X_b_CheckError, X_d_CheckError, E_a_CheckError, E_n, E_t, E_m_CheckError⟩
  have R_at_TextError : XRd K C_TextError "at" := ⟨X_g_TextError, X_h_TextError, X_n_at_TextError, X_b_TextError, X_d_TextError⟩
  have Z_TextError : XTxt prg K mg C_TextError C_TextError fI_TextError "at" := xtxt_mk X_l_TextError X_t_TextError X_u_TextError X_s_TextError X_a_TextError R_at_TextError X_i_TextError F_t_TextError X_k_TextError X_y_TextError oany (by rfl) (PySem.W.mg_none_of X G n_super) X_m_TextError F_h_TextError (by first | exact Or.inl rfl | exact Or.inr (Or.inl rfl) | exact Or.inr (Or.inr (Or.inl rfl)) | exact Or.inr (Or.inr (Or.inr rfl))) F_l_TextError F_c_TextError F_A_TextError F_v_TextError (by rfl) F_f_TextError F_B_TextError
  have E_TextError : ExcC K C_TextError := ⟨X_g_TextError, X_h_TextError, X_b_TextError, X_d_TextError, E_a_TextError, E_n, E_t, E_m_TextError⟩
  have R_number_LogError : XRd K C_LogError "number" := ⟨X_g_LogError, X_h_LogError, X_n_number_LogError, X_b_LogError, X_d_LogError⟩
  have R_reason_LogError : XRd K C_LogError "reason" := ⟨X_g_LogError, X_h_LogError, X_n_reason_LogError, X_b_LogError, X_d_LogError⟩
  have Z_LogError : XTxt2 prg K mg C_LogError C_LogError fI_LogError := xtxt2_mk X_l_LogError X_t_LogError X_u_LogError X_s_LogError X_a_LogError R_number_LogError X_n_reason_LogError X_i_LogError F_t_LogError X_k_LogError X_y_LogError oany (by rfl) (PySem.W.mg_none_of X G n_super) X_m_LogError F_h_LogError F_l_LogError F_c_LogError F_A_LogError F_v_LogError (by rfl) F_f_LogError F_B_LogError
  have E_LogError : ExcC K C_LogError := ⟨X_g_LogError, X_h_LogError, X_b_LogError, X_d_LogError, E_a_LogError, E_n, E_t, E_m_LogError⟩
  have R_line_CommandError : XRd K C_CommandError "line" := ⟨X_g_CommandError, X_h_CommandError, X_n_line_CommandError, X_b_CommandError, X_d_CommandError⟩
  have Z_CommandError : XTxt prg K mg C_CommandError C_CommandError fI_CommandError "line" := xtxt_mk X_l_CommandError X_t_CommandError X_u_CommandError X_s_CommandError X_a_CommandError R_line_CommandError X_i_CommandError F_t_CommandError X_k_CommandError X_y_CommandError oany (by rfl) (PySem.W.mg_none_of X G n_super) X_m_CommandError F_h_CommandError (by first | exact Or.inl rfl | exact Or.inr (Or.inl rfl) | exact Or.inr (Or.inr (Or.inl rfl)) | exact Or.inr (Or.inr (Or.inr rfl))) F_l_CommandError F_c_CommandError F_A_CommandError F_v_CommandError (by rfl) F_f_CommandError F_B_CommandError
  have E_CommandError : ExcC K C_CommandError := ⟨X_g_CommandError, X_h_CommandError, X_b_CommandError, X_d_CommandError, E_a_CommandError, E_n, E_t, E_m_CommandError⟩
  let dd : Nat → FuncData := fun n => match n with
    | 0 => PySem.W.fnOf "_law_draws" "_law_draws" (defArgs st__law_draws) (defBody st__law_draws) (defScope st__law_draws) .none kV0 dc0 pm0 an0 cd0 ct0
    | 1 => PySem.W.fnOf "_law_more" "_law_more" (defArgs st__law_more) (defBody st__law_more) (defScope st__law_more) .none kV1 dc1 pm1 an1 cd1 ct1
    | 2 => PySem.W.fnOf "_law_take" "_law_take" (defArgs st__law_take) (defBody st__law_take) (defScope st__law_take) .none kV2 dc2 pm2 an2 cd2 ct2
    | 3 => PySem.W.fnOf "_law_one" "_law_one" (defArgs st__law_one) (defBody st__law_one) (defScope st__law_one) .none kV3 dc3 pm3 an3 cd3 ct3
    | 4 => PySem.W.fnOf "_law_limits_right" "_law_limits_right" (defArgs st__law_limits_right) (defBody st__law_limits_right) (defScope st__law_limits_right) .none kV4 dc4 pm4 an4 cd4 ct4
    | 5 => PySem.W.fnOf "_law_raise" "_law_raise" (defArgs st__law_raise) (defBody st__law_raise) (defScope st__law_raise) .none kV5 dc5 pm5 an5 cd5 ct5
    | 6 => PySem.W.fnOf "_law_kinds" "_law_kinds" (defArgs st__law_kinds) (defBody st__law_kinds) (defScope st__law_kinds) .none kV6 dc6 pm6 an6 cd6 ct6
    | 7 => PySem.W.fnOf "_law_caught" "_law_caught" (defArgs st__law_caught) (defBody st__law_caught) (defScope st__law_caught) .none kV7 dc7 pm7 an7 cd7 ct7
    | 8 => PySem.W.fnOf "_law_fields" "_law_fields" (defArgs st__law_fields) (defBody st__law_fields) (defScope st__law_fields) .none kV8 dc8 pm8 an8 cd8 ct8
    | 9 => PySem.W.fnOf "law" "law" (defArgs st_law) (defBody st_law) (defScope st_law) .none kV9 dc9 pm9 an9 cd9 ct9
    | _ => PySem.W.fnOf "law" "law" (defArgs st_law) (defBody st_law) (defScope st_law) .none kV9 dc9 pm9 an9 cd9 ct9
  have T : Txt K mg ⟨(fun n => match n with | 0 => f0 | 1 => f1 | 2 => f2 | 3 => f3 | 4 => f4 | 5 => f5 | 6 => f6 | 7 => f7 | 8 => f8 | 9 => f9 | _ => 0), dd, (fun n => match n with | 0 => C_ArgumentError | 1 => C_PaperError | 2 => C_TooMany | 3 => C_CheckError | 4 => C_TextError | 5 => C_LogError | 6 => C_CommandError | 100 => C_ClauseError | _ => 0), (fun n => match n with | 0 => C_ReasonError | 1 => C_ReasonError | 2 => C_ReasonError | 3 => C_ReasonError | 4 => C_TextError | 5 => C_LogError | 6 => C_CommandError | _ => 0), (fun n => match n with | 0 => fI_ReasonError | 1 => fI_ReasonError | 2 => fI_ReasonError | 3 => fI_ReasonError | 4 => fI_TextError | 5 => fI_LogError | 6 => fI_CommandError | _ => 0)⟩ := {
    fn__law_draws := F0
    m__law_draws := PySem.W.mg_of X G a0
    k__law_draws := k0
    b__law_draws := b0
    fn__law_more := F1
    m__law_more := PySem.W.mg_of X G a1
    k__law_more := k1
    b__law_more := b1
    fn__law_take := F2
    m__law_take := PySem.W.mg_of X G a2
    k__law_take := k2
    b__law_take := b2
    fn__law_one := F3
    m__law_one := PySem.W.mg_of X G a3
    k__law_one := k3
    b__law_one := b3
    fn__law_limits_right := F4
    m__law_limits_right := PySem.W.mg_of X G a4
    k__law_limits_right := k4
    b__law_limits_right := b4
    fn__law_raise := F5
    m__law_raise := PySem.W.mg_of X G a5
    k__law_raise := k5
    b__law_raise := b5
    fn__law_kinds := F6
    m__law_kinds := PySem.W.mg_of X G a6
    k__law_kinds := k6
    b__law_kinds := b6
    fn__law_caught := F7
    m__law_caught := PySem.W.mg_of X G a7
    k__law_caught := k7
    b__law_caught := b7
    fn__law_fields := F8
    m__law_fields := PySem.W.mg_of X G a8
    k__law_fields := k8
    b__law_fields := b8
    fn_law := F9
    m_law := PySem.W.mg_of X G a9
    k_law := k9
    b_law := b9
    n_ValueError := PySem.W.mg_none_of X G n_ValueError
    n_abs := PySem.W.mg_none_of X G n_abs
    n_int := PySem.W.mg_none_of X G n_int
    n_isinstance := PySem.W.mg_none_of X G n_isinstance
    n_len := PySem.W.mg_none_of X G n_len
    n_range := PySem.W.mg_none_of X G n_range
    n_repr := PySem.W.mg_none_of X G n_repr
    g_MAX_ANSWERS := glob_int (PySem.W.mg_of X G g_MAX_ANSWERS)
    g_MAX_ARGUMENTS := glob_int (PySem.W.mg_of X G g_MAX_ARGUMENTS)
    g_MAX_CELLS := glob_int (PySem.W.mg_of X G g_MAX_CELLS)
    g_MAX_CLAUSES := glob_int (PySem.W.mg_of X G g_MAX_CLAUSES)
    g_MAX_EVENTS := glob_int (PySem.W.mg_of X G g_MAX_EVENTS)
    g_MAX_LINES := glob_int (PySem.W.mg_of X G g_MAX_LINES)
    g_MAX_NAME := glob_int (PySem.W.mg_of X G g_MAX_NAME)
    g_MAX_NUMBER := glob_int (PySem.W.mg_of X G g_MAX_NUMBER)
    g_MAX_SIZE := glob_int (PySem.W.mg_of X G g_MAX_SIZE)
    g_MAX_STEPS := glob_int (PySem.W.mg_of X G g_MAX_STEPS)
    g_MAX_TABLE := glob_int (PySem.W.mg_of X G g_MAX_TABLE)
    g_MAX_TEXT := glob_int (PySem.W.mg_of X G g_MAX_TEXT)
    g_MAX_WORK := glob_int (PySem.W.mg_of X G g_MAX_WORK)
    r_ArgumentError := Z_ArgumentError
    r_PaperError := Z_PaperError
    r_TooMany := Z_TooMany
    r_CheckError := Z_CheckError
    r_TextError := Z_TextError
    r_LogError := Z_LogError
    r_CommandError := Z_CommandError
    c_ArgumentError := PySem.W.mg_of X G C_a_ArgumentError
    c_PaperError := PySem.W.mg_of X G C_a_PaperError
    c_TooMany := PySem.W.mg_of X G C_a_TooMany
    c_CheckError := PySem.W.mg_of X G C_a_CheckError
    c_TextError := PySem.W.mg_of X G C_a_TextError
    c_LogError := PySem.W.mg_of X G C_a_LogError
    c_CommandError := PySem.W.mg_of X G C_a_CommandError
    c_ClauseError := PySem.W.mg_of X G C_a_ClauseError
    x_at := fun c e => match c, e with
      | 0, e => nomatch e
      | 1, e => nomatch e
      | 2, e => nomatch e
      | 3, e => nomatch e
      | 4, e => R_at_TextError
      | 5, e => nomatch e
      | 6, e => nomatch e
      | n + 7, e => nomatch e
    x_line := fun c e => match c, e with
      | 0, e => nomatch e
      | 1, e => nomatch e
      | 2, e => nomatch e
      | 3, e => nomatch e
      | 4, e => nomatch e
      | 5, e => nomatch e
      | 6, e => R_line_CommandError
      | n + 7, e => nomatch e
    x_number := fun c e => match c, e with
      | 0, e => nomatch e
      | 1, e => nomatch e
      | 2, e => nomatch e
      | 3, e => nomatch e
      | 4, e => nomatch e
      | 5, e => R_number_LogError
      | 6, e => nomatch e
      | n + 7, e => nomatch e
    x_reason := fun c e => match c, e with
      | 0, e => R_reason_ArgumentError
      | 1, e => R_reason_PaperError
      | 2, e => R_reason_TooMany
      | 3, e => R_reason_CheckError
      | 4, e => nomatch e
      | 5, e => R_reason_LogError
      | 6, e => nomatch e
      | n + 7, e => nomatch e
    i_ArgumentError := fun c b e => match c, e with
      | 0, e => by cases e; exact ⟨E_ArgumentError, kit_same⟩
      | 1, e => by cases e; exact ⟨E_PaperError, kit_ref K_e_PaperError_ArgumentError K_d_ArgumentError K_y_ArgumentError K_s_PaperError_ArgumentError⟩
      | 2, e => by cases e; exact ⟨E_TooMany, kit_ref K_e_TooMany_ArgumentError K_d_ArgumentError K_y_ArgumentError K_s_TooMany_ArgumentError⟩
      | 3, e => by cases e; exact ⟨E_CheckError, kit_ref K_e_CheckError_ArgumentError K_d_ArgumentError K_y_ArgumentError K_s_CheckError_ArgumentError⟩
      | 4, e => by cases e; exact ⟨E_TextError, kit_ref K_e_TextError_ArgumentError K_d_ArgumentError K_y_ArgumentError K_s_TextError_ArgumentError⟩
      | 5, e => by cases e; exact ⟨E_LogError, kit_ref K_e_LogError_ArgumentError K_d_ArgumentError K_y_ArgumentError K_s_LogError_ArgumentError⟩
      | 6, e => by cases e; exact ⟨E_CommandError, kit_ref K_e_CommandError_ArgumentError K_d_ArgumentError K_y_ArgumentError K_s_CommandError_ArgumentError⟩
      | n + 7, e => nomatch e
    i_CheckError := fun c b e => match c, e with
      | 0, e => by cases e; exact ⟨E_ArgumentError, kit_ref K_e_ArgumentError_CheckError K_d_CheckError K_y_CheckError K_s_ArgumentError_CheckError⟩
      | 1, e => by cases e; exact ⟨E_PaperError, kit_ref K_e_PaperError_CheckError K_d_CheckError K_y_CheckError K_s_PaperError_CheckError⟩
      | 2, e => by cases e; exact ⟨E_TooMany, kit_ref K_e_TooMany_CheckError K_d_CheckError K_y_CheckError K_s_TooMany_CheckError⟩
      | 3, e => by cases e; exact ⟨E_CheckError, kit_same⟩
      | 4, e => by cases e; exact ⟨E_TextError, kit_ref K_e_TextError_CheckError K_d_CheckError K_y_CheckError K_s_TextError_CheckError⟩
      | 5, e => by cases e; exact ⟨E_LogError, kit_ref K_e_LogError_CheckError K_d_CheckError K_y_CheckError K_s_LogError_CheckError⟩
      | 6, e => by cases e; exact ⟨E_CommandError, kit_ref K_e_CommandError_CheckError K_d_CheckError K_y_CheckError K_s_CommandError_CheckError⟩
      | n + 7, e => nomatch e
    i_CommandError := fun c b e => match c, e with
      | 0, e => by cases e; exact ⟨E_ArgumentError, kit_ref K_e_ArgumentError_CommandError K_d_CommandError K_y_CommandError K_s_ArgumentError_CommandError⟩
      | 1, e => by cases e; exact ⟨E_PaperError, kit_ref K_e_PaperError_CommandError K_d_CommandError K_y_CommandError K_s_PaperError_CommandError⟩
      | 2, e => by cases e; exact ⟨E_TooMany, kit_ref K_e_TooMany_CommandError K_d_CommandError K_y_CommandError K_s_TooMany_CommandError⟩
      | 3, e => by cases e; exact ⟨E_CheckError, kit_ref K_e_CheckError_CommandError K_d_CommandError K_y_CommandError K_s_CheckError_CommandError⟩
      | 4, e => by cases e; exact ⟨E_TextError, kit_ref K_e_TextError_CommandError K_d_CommandError K_y_CommandError K_s_TextError_CommandError⟩
      | 5, e => by cases e; exact ⟨E_LogError, kit_ref K_e_LogError_CommandError K_d_CommandError K_y_CommandError K_s_LogError_CommandError⟩
      | 6, e => by cases e; exact ⟨E_CommandError, kit_same⟩
      | n + 7, e => nomatch e
    i_LogError := fun c b e => match c, e with
      | 0, e => by cases e; exact ⟨E_ArgumentError, kit_ref K_e_ArgumentError_LogError K_d_LogError K_y_LogError K_s_ArgumentError_LogError⟩
      | 1, e => by cases e; exact ⟨E_PaperError, kit_ref K_e_PaperError_LogError K_d_LogError K_y_LogError K_s_PaperError_LogError⟩
      | 2, e => by cases e; exact ⟨E_TooMany, kit_ref K_e_TooMany_LogError K_d_LogError K_y_LogError K_s_TooMany_LogError⟩
      | 3, e => by cases e; exact ⟨E_CheckError, kit_ref K_e_CheckError_LogError K_d_LogError K_y_LogError K_s_CheckError_LogError⟩
      | 4, e => by cases e; exact ⟨E_TextError, kit_ref K_e_TextError_LogError K_d_LogError K_y_LogError K_s_TextError_LogError⟩
      | 5, e => by cases e; exact ⟨E_LogError, kit_same⟩
      | 6, e => by cases e; exact ⟨E_CommandError, kit_ref K_e_CommandError_LogError K_d_LogError K_y_LogError K_s_CommandError_LogError⟩
      | n + 7, e => nomatch e
    i_PaperError := fun c b e => match c, e with
      | 0, e => by cases e; exact ⟨E_ArgumentError, kit_ref K_e_ArgumentError_PaperError K_d_PaperError K_y_PaperError K_s_ArgumentError_PaperError⟩
      | 1, e => by cases e; exact ⟨E_PaperError, kit_same⟩
      | 2, e => by cases e; exact ⟨E_TooMany, kit_ref K_e_TooMany_PaperError K_d_PaperError K_y_PaperError K_s_TooMany_PaperError⟩
      | 3, e => by cases e; exact ⟨E_CheckError, kit_ref K_e_CheckError_PaperError K_d_PaperError K_y_PaperError K_s_CheckError_PaperError⟩
      | 4, e => by cases e; exact ⟨E_TextError, kit_ref K_e_TextError_PaperError K_d_PaperError K_y_PaperError K_s_TextError_PaperError⟩
      | 5, e => by cases e; exact ⟨E_LogError, kit_ref K_e_LogError_PaperError K_d_PaperError K_y_PaperError K_s_LogError_PaperError⟩
      | 6, e => by cases e; exact ⟨E_CommandError, kit_ref K_e_CommandError_PaperError K_d_PaperError K_y_PaperError K_s_CommandError_PaperError⟩
      | n + 7, e => nomatch e
    i_TextError := fun c b e => match c, e with
      | 0, e => by cases e; exact ⟨E_ArgumentError, kit_ref K_e_ArgumentError_TextError K_d_TextError K_y_TextError K_s_ArgumentError_TextError⟩
      | 1, e => by cases e; exact ⟨E_PaperError, kit_ref K_e_PaperError_TextError K_d_TextError K_y_TextError K_s_PaperError_TextError⟩
      | 2, e => by cases e; exact ⟨E_TooMany, kit_ref K_e_TooMany_TextError K_d_TextError K_y_TextError K_s_TooMany_TextError⟩
      | 3, e => by cases e; exact ⟨E_CheckError, kit_ref K_e_CheckError_TextError K_d_TextError K_y_TextError K_s_CheckError_TextError⟩
      | 4, e => by cases e; exact ⟨E_TextError, kit_same⟩
      | 5, e => by cases e; exact ⟨E_LogError, kit_ref K_e_LogError_TextError K_d_TextError K_y_TextError K_s_LogError_TextError⟩
      | 6, e => by cases e; exact ⟨E_CommandError, kit_ref K_e_CommandError_TextError K_d_TextError K_y_TextError K_s_CommandError_TextError⟩
      | n + 7, e => nomatch e
    i_TooMany := fun c b e => match c, e with
      | 0, e => by cases e; exact ⟨E_ArgumentError, kit_ref K_e_ArgumentError_TooMany K_d_TooMany K_y_TooMany K_s_ArgumentError_TooMany⟩
      | 1, e => by cases e; exact ⟨E_PaperError, kit_ref K_e_PaperError_TooMany K_d_TooMany K_y_TooMany K_s_PaperError_TooMany⟩
      | 2, e => by cases e; exact ⟨E_TooMany, kit_same⟩
      | 3, e => by cases e; exact ⟨E_CheckError, kit_ref K_e_CheckError_TooMany K_d_TooMany K_y_TooMany K_s_CheckError_TooMany⟩
      | 4, e => by cases e; exact ⟨E_TextError, kit_ref K_e_TextError_TooMany K_d_TooMany K_y_TooMany K_s_TextError_TooMany⟩
      | 5, e => by cases e; exact ⟨E_LogError, kit_ref K_e_LogError_TooMany K_d_TooMany K_y_TooMany K_s_LogError_TooMany⟩
      | 6, e => by cases e; exact ⟨E_CommandError, kit_ref K_e_CommandError_TooMany K_d_TooMany K_y_TooMany K_s_CommandError_TooMany⟩
      | n + 7, e => nomatch e
    i_ValueError := fun c b e => match c, e with
      | 0, e => by cases e; exact ⟨E_ArgumentError, kit_bltn (by decide +kernel) K_s_ArgumentError_ValueError⟩
      | 1, e => by cases e; exact ⟨E_PaperError, kit_bltn (by decide +kernel) K_s_PaperError_ValueError⟩
      | 2, e => by cases e; exact ⟨E_TooMany, kit_bltn (by decide +kernel) K_s_TooMany_ValueError⟩
      | 3, e => by cases e; exact ⟨E_CheckError, kit_bltn (by decide +kernel) K_s_CheckError_ValueError⟩
      | 4, e => by cases e; exact ⟨E_TextError, kit_bltn (by decide +kernel) K_s_TextError_ValueError⟩
      | 5, e => by cases e; exact ⟨E_LogError, kit_bltn (by decide +kernel) K_s_LogError_ValueError⟩
      | 6, e => by cases e; exact ⟨E_CommandError, kit_bltn (by decide +kernel) K_s_CommandError_ValueError⟩
      | n + 7, e => nomatch e
    s_ArgumentError := fun c b e => match c, e with
      | 0, e => by cases e; exact PySem.W.exm_ref K_b_ArgumentError K_d_ArgumentError K_y_ArgumentError K_s_ArgumentError_ArgumentError
      | 1, e => by cases e; exact PySem.W.exm_ref K_b_ArgumentError K_d_ArgumentError K_y_ArgumentError K_s_PaperError_ArgumentError
      | 2, e => by cases e; exact PySem.W.exm_ref K_b_ArgumentError K_d_ArgumentError K_y_ArgumentError K_s_TooMany_ArgumentError
      | 3, e => by cases e; exact PySem.W.exm_ref K_b_ArgumentError K_d_ArgumentError K_y_ArgumentError K_s_CheckError_ArgumentError
      | 4, e => by cases e; exact PySem.W.exm_ref K_b_ArgumentError K_d_ArgumentError K_y_ArgumentError K_s_TextError_ArgumentError
      | 5, e => by cases e; exact PySem.W.exm_ref K_b_ArgumentError K_d_ArgumentError K_y_ArgumentError K_s_LogError_ArgumentError
      | 6, e => by cases e; exact PySem.W.exm_ref K_b_ArgumentError K_d_ArgumentError K_y_ArgumentError K_s_CommandError_ArgumentError
      | n + 7, e => nomatch e
    s_CheckError := fun c b e => match c, e with
      | 0, e => by cases e; exact PySem.W.exm_ref K_b_CheckError K_d_CheckError K_y_CheckError K_s_ArgumentError_CheckError
      | 1, e => by cases e; exact PySem.W.exm_ref K_b_CheckError K_d_CheckError K_y_CheckError K_s_PaperError_CheckError
      | 2, e => by cases e; exact PySem.W.exm_ref K_b_CheckError K_d_CheckError K_y_CheckError K_s_TooMany_CheckError
      | 3, e => by cases e; exact PySem.W.exm_ref K_b_CheckError K_d_CheckError K_y_CheckError K_s_CheckError_CheckError
      | 4, e => by cases e; exact PySem.W.exm_ref K_b_CheckError K_d_CheckError K_y_CheckError K_s_TextError_CheckError
      | 5, e => by cases e; exact PySem.W.exm_ref K_b_CheckError K_d_CheckError K_y_CheckError K_s_LogError_CheckError
      | 6, e => by cases e; exact PySem.W.exm_ref K_b_CheckError K_d_CheckError K_y_CheckError K_s_CommandError_CheckError
      | n + 7, e => nomatch e
    s_ClauseError := fun c b e => match c, e with
      | 0, e => by cases e; exact PySem.W.exm_ref K_b_ClauseError K_d_ClauseError K_y_ClauseError K_s_ArgumentError_ClauseError
      | 1, e => by cases e; exact PySem.W.exm_ref K_b_ClauseError K_d_ClauseError K_y_ClauseError K_s_PaperError_ClauseError
      | 2, e => by cases e; exact PySem.W.exm_ref K_b_ClauseError K_d_ClauseError K_y_ClauseError K_s_TooMany_ClauseError
      | 3, e => by cases e; exact PySem.W.exm_ref K_b_ClauseError K_d_ClauseError K_y_ClauseError K_s_CheckError_ClauseError
      | 4, e => by cases e; exact PySem.W.exm_ref K_b_ClauseError K_d_ClauseError K_y_ClauseError K_s_TextError_ClauseError
      | 5, e => by cases e; exact PySem.W.exm_ref K_b_ClauseError K_d_ClauseError K_y_ClauseError K_s_LogError_ClauseError
      | 6, e => by cases e; exact PySem.W.exm_ref K_b_ClauseError K_d_ClauseError K_y_ClauseError K_s_CommandError_ClauseError
      | n + 7, e => nomatch e
    s_CommandError := fun c b e => match c, e with
      | 0, e => by cases e; exact PySem.W.exm_ref K_b_CommandError K_d_CommandError K_y_CommandError K_s_ArgumentError_CommandError
      | 1, e => by cases e; exact PySem.W.exm_ref K_b_CommandError K_d_CommandError K_y_CommandError K_s_PaperError_CommandError
      | 2, e => by cases e; exact PySem.W.exm_ref K_b_CommandError K_d_CommandError K_y_CommandError K_s_TooMany_CommandError
      | 3, e => by cases e; exact PySem.W.exm_ref K_b_CommandError K_d_CommandError K_y_CommandError K_s_CheckError_CommandError
      | 4, e => by cases e; exact PySem.W.exm_ref K_b_CommandError K_d_CommandError K_y_CommandError K_s_TextError_CommandError
      | 5, e => by cases e; exact PySem.W.exm_ref K_b_CommandError K_d_CommandError K_y_CommandError K_s_LogError_CommandError
      | 6, e => by cases e; exact PySem.W.exm_ref K_b_CommandError K_d_CommandError K_y_CommandError K_s_CommandError_CommandError
      | n + 7, e => nomatch e
    s_LogError := fun c b e => match c, e with
      | 0, e => by cases e; exact PySem.W.exm_ref K_b_LogError K_d_LogError K_y_LogError K_s_ArgumentError_LogError
      | 1, e => by cases e; exact PySem.W.exm_ref K_b_LogError K_d_LogError K_y_LogError K_s_PaperError_LogError
      | 2, e => by cases e; exact PySem.W.exm_ref K_b_LogError K_d_LogError K_y_LogError K_s_TooMany_LogError
      | 3, e => by cases e; exact PySem.W.exm_ref K_b_LogError K_d_LogError K_y_LogError K_s_CheckError_LogError
      | 4, e => by cases e; exact PySem.W.exm_ref K_b_LogError K_d_LogError K_y_LogError K_s_TextError_LogError
      | 5, e => by cases e; exact PySem.W.exm_ref K_b_LogError K_d_LogError K_y_LogError K_s_LogError_LogError
      | 6, e => by cases e; exact PySem.W.exm_ref K_b_LogError K_d_LogError K_y_LogError K_s_CommandError_LogError
      | n + 7, e => nomatch e
    s_PaperError := fun c b e => match c, e with
      | 0, e => by cases e; exact PySem.W.exm_ref K_b_PaperError K_d_PaperError K_y_PaperError K_s_ArgumentError_PaperError
      | 1, e => by cases e; exact PySem.W.exm_ref K_b_PaperError K_d_PaperError K_y_PaperError K_s_PaperError_PaperError
      | 2, e => by cases e; exact PySem.W.exm_ref K_b_PaperError K_d_PaperError K_y_PaperError K_s_TooMany_PaperError
      | 3, e => by cases e; exact PySem.W.exm_ref K_b_PaperError K_d_PaperError K_y_PaperError K_s_CheckError_PaperError
      | 4, e => by cases e; exact PySem.W.exm_ref K_b_PaperError K_d_PaperError K_y_PaperError K_s_TextError_PaperError
      | 5, e => by cases e; exact PySem.W.exm_ref K_b_PaperError K_d_PaperError K_y_PaperError K_s_LogError_PaperError
      | 6, e => by cases e; exact PySem.W.exm_ref K_b_PaperError K_d_PaperError K_y_PaperError K_s_CommandError_PaperError
      | n + 7, e => nomatch e
    s_TextError := fun c b e => match c, e with
      | 0, e => by cases e; exact PySem.W.exm_ref K_b_TextError K_d_TextError K_y_TextError K_s_ArgumentError_TextError
      | 1, e => by cases e; exact PySem.W.exm_ref K_b_TextError K_d_TextError K_y_TextError K_s_PaperError_TextError
      | 2, e => by cases e; exact PySem.W.exm_ref K_b_TextError K_d_TextError K_y_TextError K_s_TooMany_TextError
      | 3, e => by cases e; exact PySem.W.exm_ref K_b_TextError K_d_TextError K_y_TextError K_s_CheckError_TextError
      | 4, e => by cases e; exact PySem.W.exm_ref K_b_TextError K_d_TextError K_y_TextError K_s_TextError_TextError
      | 5, e => by cases e; exact PySem.W.exm_ref K_b_TextError K_d_TextError K_y_TextError K_s_LogError_TextError
      | 6, e => by cases e; exact PySem.W.exm_ref K_b_TextError K_d_TextError K_y_TextError K_s_CommandError_TextError
      | n + 7, e => nomatch e
    s_TooMany := fun c b e => match c, e with
      | 0, e => by cases e; exact PySem.W.exm_ref K_b_TooMany K_d_TooMany K_y_TooMany K_s_ArgumentError_TooMany
      | 1, e => by cases e; exact PySem.W.exm_ref K_b_TooMany K_d_TooMany K_y_TooMany K_s_PaperError_TooMany
      | 2, e => by cases e; exact PySem.W.exm_ref K_b_TooMany K_d_TooMany K_y_TooMany K_s_TooMany_TooMany
      | 3, e => by cases e; exact PySem.W.exm_ref K_b_TooMany K_d_TooMany K_y_TooMany K_s_CheckError_TooMany
      | 4, e => by cases e; exact PySem.W.exm_ref K_b_TooMany K_d_TooMany K_y_TooMany K_s_TextError_TooMany
      | 5, e => by cases e; exact PySem.W.exm_ref K_b_TooMany K_d_TooMany K_y_TooMany K_s_LogError_TooMany
      | 6, e => by cases e; exact PySem.W.exm_ref K_b_TooMany K_d_TooMany K_y_TooMany K_s_CommandError_TooMany
      | n + 7, e => nomatch e
    }
  exact ⟨dd 9, Gm K _, rfl, rfl, fun s v => .of_eq rfl, fun B _ _ => (by rw [← e]; exact (all_ok T 150).g_law)⟩
end K00

set_option Elab.async false
set_option linter.all false
set_option maxRecDepth 100000
set_option maxHeartbeats 1000000
namespace K00
open PySem Mp
/-! ### what the law draws -/
abbrev DS (l : List Int) : Ob := .lst (l.map D.int)
theorem DS_flat (l : List Int) : flat (DS l) = true := ints_nl l
theorem draw_a (n : Nat) (a b c d : Option D) (rest : Int) (l : List Int) (sl : Ob) (hz : l.length < 16777216) : ∃ (rest' : Int) (l' : List Int), l'.length ≤ l.length + 1 ∧
    W__law_draws_0 (sem n) [a, some (.loc 0), b, some (.int rest), c, d] [DS l, sl] = .nx [a, some (.loc 0), b, some (.int rest'), c, d] [DS l', sl] := by
  by_cases hr : 0 < rest
  · have hd : divC rest 1009 = true := by
      unfold divC
      decide
    exact ⟨rest.fdiv 1009, l ++ [rest.fmod 1009], by simp, by simp [runB, sSeq, sAsg, sRet, sRetN, sIf, sExpr, sSkip, sSetIx, sPar2, sAug, sCont, sBreak, mVar, mLit, mNil, mCons, mTup, mLst, szOk, sizeLine, mCall, mMeth, isL, isDi, isS, m1, m2, mIf, mAnd, mOr, mNot, mTru, truD, mtAnd, mtOr, mtNot, mB, gN, gT, gCons', gNil', tupOf, Res.sr, Res.bind, trim, trimX, noLoc, noLocs, flat, lstOf, W__law_draws_0, hr, appF, hz, hd]⟩
  · exact ⟨rest, l, by omega, by simp [runB, sSeq, sAsg, sRet, sRetN, sIf, sExpr, sSkip, sSetIx, sPar2, sAug, sCont, sBreak, mVar, mLit, mNil, mCons, mTup, mLst, szOk, sizeLine, mCall, mMeth, isL, isDi, isS, m1, m2, mIf, mAnd, mOr, mNot, mTru, truD, mtAnd, mtOr, mtNot, mB, gN, gT, gCons', gNil', tupOf, Res.sr, Res.bind, trim, trimX, noLoc, noLocs, flat, lstOf, W__law_draws_0, hr]⟩
theorem draw_b (n : Nat) (a b c : Option D) (k : Nat) (mx : Int) (l : List Int) (sl : Ob) (hz : l.length < 16777216) : ∃ (mx' : Int) (l' : List Int), l'.length ≤ l.length + 1 ∧
    W__law_draws_1 (sem n) [a, some (.loc 0), b, c, some (.int k), some (.int mx)] [DS l, sl] = .nx [a, some (.loc 0), b, c, some (.int k), some (.int mx')] [DS l', sl] := by
  have hd : ∀ i : Int, divC i 1009 = true := fun i => by
    unfold divC
    decide
  have hm : mulC 69621 (k : Int) = true := mulC_l (by omega)
  exact ⟨_, l ++ [((mx * 16807 + 69621 * k + 5).fmod 2147483629).fdiv 1009], by simp, by simp [runB, sSeq, sAsg, sRet, sRetN, sIf, sExpr, sSkip, sSetIx, sPar2, sAug, sCont, sBreak, mVar, mLit, mNil, mCons, mTup, mLst, szOk, sizeLine, mCall, mMeth, isL, isDi, isS, m1, m2, mIf, mAnd, mOr, mNot, mTru, truD, mtAnd, mtOr, mtNot, mB, gN, gT, gCons', gNil', tupOf, Res.sr, Res.bind, trim, trimX, noLoc, noLocs, flat, lstOf, W__law_draws_1, appF, hz, hd, hm]; rfl⟩
theorem draw_row (n : Nat) (a : Option D) (b1 b2 b3 : Option D) (cell : Int) (l : List Int) (sl : Ob) (hz : l.length + 100 < 16777216) : ∃ (b1' b2' b3' : Option D) (l' : List Int), l'.length ≤ l.length + 60 ∧
    W__law_draws_2 (sem n) [a, some (.loc 0), some (.int cell), b1, b2, b3] [DS l, sl] = .nx [a, some (.loc 0), some (.int cell), b1', b2', b3'] [DS l', sl] := by
  obtain ⟨r, hA⟩ : ∃ r : Int, sAsg (mCall absF (mCons (mVar 2) mNil)) (gN 3) [a, some (.loc 0), some (.int cell), b1, b2, b3] [DS l, sl] = .nx [a, some (.loc 0), some (.int cell), some (.int r), b2, b3] [DS l, sl] := ⟨_, by simp [runB, sSeq, sAsg, sRet, sRetN, sIf, sExpr, sSkip, sSetIx, sPar2, sAug, sCont, sBreak, mVar, mLit, mNil, mCons, mTup, mLst, szOk, sizeLine, mCall, mMeth, isL, isDi, isS, m1, m2, mIf, mAnd, mOr, mNot, mTru, truD, mtAnd, mtOr, mtNot, mB, gN, gT, gCons', gNil', tupOf, Res.sr, Res.bind, trim, trimX, noLoc, noLocs, flat, lstOf]; rfl⟩
  have fa : ∃ e' s', sFor (miR1 (mLit (.int 60))) (gN 4) (W__law_draws_0 (sem n)) [a, some (.loc 0), some (.int cell), some (.int r), b2, b3] [DS l, sl] = .nx e' s' ∧
      ∃ (c d : Option D) (rest : Int) (l' : List Int), e' = [a, some (.loc 0), some (.int cell), some (.int rest), c, d] ∧ s' = [DS l', sl] ∧ l'.length ≤ l.length + 60 := by
    refine sFor_inv (n := 60) (nx := rgs 0 60) (by simp [miR1, mLit, Res.bind]) (fun i e s => ∃ (c d : Option D) (rest : Int) (l' : List Int), e = [a, some (.loc 0), some (.int cell), some (.int rest), c, d] ∧ s = [DS l', sl] ∧ l'.length ≤ l.length + i)
      ⟨_, _, _, l, rfl, rfl, by omega⟩ (fun e st _ => rgs_end) ?_
    rintro i e st hi ⟨c, d, rest, l', rfl, rfl, hl⟩
    obtain ⟨r', l2, h1, h2⟩ := draw_a n a (some (.int cell)) (some (.int (0 + i))) d rest l' sl (by omega)
    exact ⟨_, _, rgs_lt hi, rfl, _, _, .inl h2, _, _, _, _, rfl, rfl, by omega⟩
  have fb : ∀ mx : Int, ∃ e' s', sFor (miR1 (mLit (.int 12))) (gN 4) (W__law_draws_1 (sem n)) [a, some (.loc 0), some (.int cell), some (.int r), b2, some (.int mx)] [DS l, sl] = .nx e' s' ∧
      ∃ (c : Option D) (mx' : Int) (l' : List Int), e' = [a, some (.loc 0), some (.int cell), some (.int r), c, some (.int mx')] ∧ s' = [DS l', sl] ∧ l'.length ≤ l.length + 60 := by
    intro mx
    have f := sFor_inv (m := miR1 (mLit (.int 12))) (g := gN 4) (b := W__law_draws_1 (sem n)) (e := [a, some (.loc 0), some (.int cell), some (.int r), b2, some (.int mx)]) (st := [DS l, sl]) (s1 := [DS l, sl]) (n := 12) (nx := rgs 0 12) (by simp [miR1, mLit, Res.bind])
      (fun i e s => ∃ (c : Option D) (mx' : Int) (l' : List Int), e = [a, some (.loc 0), some (.int cell), some (.int r), c, some (.int mx')] ∧ s = [DS l', sl] ∧ l'.length ≤ l.length + i)
      ⟨_, _, l, rfl, rfl, by omega⟩ (fun e st _ => rgs_end) (by
        rintro i e st hi ⟨c, mx', l', rfl, rfl, hl⟩
        obtain ⟨r', l2, h1, h2⟩ := draw_b n a (some (.int cell)) (some (.int r)) i mx' l' sl (by omega)
        exact ⟨.int (0 + i), [a, some (.loc 0), some (.int cell), some (.int r), some (.int i), some (.int mx')], rgs_lt hi, by simp [gN], _, _, .inl h2, _, _, _, rfl, rfl, by omega⟩)
    obtain ⟨e', s', h, c, mx', l', h1, h2, h3⟩ := f
    exact ⟨e', s', h, c, mx', l', h1, h2, by omega⟩
  obtain ⟨c, hc⟩ : ∃ c : Bool, (mB (m2 geF (mVar 3) (m2 powF (mLit (.int 10)) (mLit (.int 18))))) [a, some (.loc 0), some (.int cell), some (.int r), b2, b3] [DS l, sl] = .ok c [DS l, sl] := ⟨_, rfl⟩
  unfold W__law_draws_2
  rw [sSeq_nx hA, sSeq_one]
  cases c with
  | true =>
    rw [sIf_t hc, sSeq_one]
    obtain ⟨_, _, h, c, d, rest, l', rfl, rfl, hl⟩ := fa
    exact ⟨_, _, _, l', hl, h⟩
  | false =>
    rw [sIf_f hc]
    obtain ⟨_, _, h, c, mx', l', rfl, rfl, hl⟩ := fb ((r * 48271 + 11).fmod 2147483647)
    have hM : sAsg (m2 modF (mCall intCallF (mCons (m2 addF (m2 mulF (mVar 3) (mLit (.int 48271))) (mLit (.int 11))) mNil)) (mLit (.int 2147483647))) (gN 5) [a, some (.loc 0), some (.int cell), some (.int r), b2, b3] [DS l, sl] =
      .nx [a, some (.loc 0), some (.int cell), some (.int r), b2, some (.int ((r * 48271 + 11).fmod 2147483647))] [DS l, sl] := by simp [runB, sSeq, sAsg, sRet, sRetN, sIf, sExpr, sSkip, sSetIx, sPar2, sAug, sCont, sBreak, mVar, mLit, mNil, mCons, mTup, mLst, szOk, sizeLine, mCall, mMeth, isL, isDi, isS, m1, m2, mIf, mAnd, mOr, mNot, mTru, truD, mtAnd, mtOr, mtNot, mB, gN, gT, gCons', gNil', tupOf, Res.sr, Res.bind, trim, trimX, noLoc, noLocs, flat, lstOf]
    rw [sSeq_nx hM, sSeq_one]
    exact ⟨_, _, _, l', hl, h⟩
theorem draws_ok (n : Nat) (ns : List Int) : ∃ l : List Int, l.length ≤ 4000 ∧ sem (n + 1) 0 [.fz (ns.map D.int)] [] = .ok (.loc 0) [DS l] := by
  obtain ⟨ms, hms, hml⟩ : ∃ ms : List Int, cutD (ns.map D.int) none (some 63) = ms.map D.int ∧ ms.length ≤ 63 := by
    refine ⟨ns.take (min 63 ns.length), ?_, ?_⟩
    · simp only [cutD, HT.sIx_none, List.drop_zero, List.length_map, Nat.sub_zero]
      rw [show (63 : Int) = ((63 : Nat) : Int) from rfl, HT.sIx_nat, List.map_take]
    · rw [List.length_take]
      omega
  have f : ∃ e' s', sFor (miSeq (mSl (mVar 0) mNoPart (mPart (mLit (.int 63))))) (gN 2) (W__law_draws_2 (sem n)) [some (.fz (ns.map D.int)), some (.loc 0), none, none, none, none] [DS []] = .nx e' s' ∧
      ∃ (z b1 b2 b3 : Option D) (l : List Int), e' = [some (.fz (ns.map D.int)), some (.loc 0), z, b1, b2, b3] ∧ s' = [DS l, DS ms] ∧ l.length ≤ 60 * ms.length := by
    refine sFor_inv (n := ms.length) (nx := nxLoc 1) (s1 := [DS [], DS ms]) (by simp [miSeq, mSl, mVar, mNoPart, mPart, mLit, Res.bind, slF, hms])
      (fun i e s => ∃ (z b1 b2 b3 : Option D) (l : List Int), e = [some (.fz (ns.map D.int)), some (.loc 0), z, b1, b2, b3] ∧ s = [DS l, DS ms] ∧ l.length ≤ 60 * i) ⟨_, _, _, _, [], rfl, rfl, by simp⟩ ?_ ?_
    · rintro e st ⟨z, b1, b2, b3, l, rfl, rfl, hl⟩
      simp [nxLoc]
    · rintro i e st hi ⟨z, b1, b2, b3, l, rfl, rfl, hl⟩
      obtain ⟨c1, c2, c3, l2, h1, h2⟩ := draw_row n (some (.fz (ns.map D.int))) b1 b2 b3 ms[i] l (DS ms) (by omega)
      exact ⟨.int ms[i], [some (.fz (ns.map D.int)), some (.loc 0), some (.int ms[i]), b1, b2, b3], by simp [nxLoc, hi], rfl, _, _, .inl h2, _, _, _, _, l2, rfl, rfl, by omega⟩
  obtain ⟨_, _, h, z, b1, b2, b3, l, rfl, rfl, hl⟩ := f
  refine ⟨l, by omega, ?_⟩
  rw [sem__law_draws]
  simp only [DS, List.map_nil] at h
  simp [runB, sSeq, sAsg, sRet, sRetN, sIf, sExpr, sSkip, sSetIx, sPar2, sAug, sCont, sBreak, mVar, mLit, mNil, mCons, mTup, mLst, szOk, sizeLine, mCall, mMeth, isL, isDi, isS, m1, m2, mIf, mAnd, mOr, mNot, mTru, truD, mtAnd, mtOr, mtNot, mB, gN, gT, gCons', gNil', tupOf, Res.sr, Res.bind, trim, trimX, noLoc, noLocs, flat, lstOf, B__law_draws, h, ints_nl]
theorem more_ok (n : Nat) (l : List Int) (p : Int) : ∃ r : Int, sem (n + 1) 1 [.loc 0, .int p] [DS l] = .ok (.int r) [DS l] := by
  have hd : ∀ i : Int, divC i 1009 = true := fun i => by
    unfold divC
    decide
  have hl : lenF [.loc 0] [DS l] = .ok (.int l.length) [DS l] := by
    have := lenF_l (l := l.map D.int) (st := [DS l]) (n := 0) rfl
    rw [List.length_map] at this
    exact this
  have hs : ∀ (k : Nat) (mx : Int), k < 3 → ∃ mx' : Int, W__law_more_0 (sem n) [some (.loc 0), some (.int p), some (.int mx), some (.int k)] [DS l] = .nx [some (.loc 0), some (.int p), some (.int mx'), some (.int k)] [DS l] := by
    intro k mx hk
    have hm : mulC 69621 (k : Int) = true := mulC_l (by omega)
    have hm2 : mulC p ((k : Int) + 5) = true := mulC_r (by omega)
    cases l with
    | nil => exact ⟨_, by simp [runB, sSeq, sAsg, sRet, sRetN, sIf, sExpr, sSkip, sSetIx, sPar2, sAug, sCont, sBreak, mVar, mLit, mNil, mCons, mTup, mLst, szOk, sizeLine, mCall, mMeth, isL, isDi, isS, m1, m2, mIf, mAnd, mOr, mNot, mTru, truD, mtAnd, mtOr, mtNot, mB, gN, gT, gCons', gNil', tupOf, Res.sr, Res.bind, trim, trimX, noLoc, noLocs, flat, lstOf, W__law_more_0, hm]; rfl⟩
    | cons a l =>
      have h0 : (((a :: l).length : Nat) : Int) ≠ 0 := by simp only [List.length_cons]; omega
      have hx : ∀ i : Int, ∃ z : Int, ixF (.loc 0) (.int (i.fmod ((a :: l).length : Nat))) [DS (a :: l)] = .ok (.int z) [DS (a :: l)] := by
        intro i
        have b1 := Int.fmod_nonneg_of_pos i (b := (((a :: l).length : Nat) : Int)) (by simp only [List.length_cons]; omega)
        have b2 := Int.fmod_lt_of_pos i (b := (((a :: l).length : Nat) : Int)) (by simp only [List.length_cons]; omega)
        obtain ⟨j, hj⟩ := Int.eq_ofNat_of_zero_le b1
        rw [hj] at b2 ⊢
        have hj2 : j < (a :: l).length := by omega
        exact ⟨(a :: l)[j], ixF_nat (l := (a :: l).map D.int) rfl (by simp only [List.getElem?_map, List.getElem?_eq_getElem hj2]; rfl)⟩
      obtain ⟨z, hz⟩ := hx (p * ((k : Int) + 5) + k)
      have q : m2 addF (mVar 2) (m2 ixF (mVar 0) (m2 modF (mCall intCallF (mCons (m2 addF (m2 mulF (mVar 1) (m2 addF (mVar 3) (mLit (.int 5)))) (mVar 3)) mNil)) (mCall lenF (mCons (mVar 0) mNil)))) [some (.loc 0), some (.int p), some (.int mx), some (.int k)] [DS (a :: l)] = .ok (.int (mx + z)) [DS (a :: l)] := by
        simp only [m2, mVar, mLit, mCall, mCons, mNil, Res.bind, List.getElem?_cons_zero, List.getElem?_cons_succ, addF_ii, mulF_ii hm2, intF_i, hl, modF_ii h0, hz]
      have t1 : mTru (mVar 0) [some (.loc 0), some (.int p), some (.int mx), some (.int k)] [DS (a :: l)] = .ok true [DS (a :: l)] := by simp [runB, sSeq, sAsg, sRet, sRetN, sIf, sExpr, sSkip, sSetIx, sPar2, sAug, sCont, sBreak, mVar, mLit, mNil, mCons, mTup, mLst, szOk, sizeLine, mCall, mMeth, isL, isDi, isS, m1, m2, mIf, mAnd, mOr, mNot, mTru, truD, mtAnd, mtOr, mtNot, mB, gN, gT, gCons', gNil', tupOf, Res.sr, Res.bind, trim, trimX, noLoc, noLocs, flat, lstOf]
      have t2 : sAsg (m2 addF (mVar 2) (m2 ixF (mVar 0) (m2 modF (mCall intCallF (mCons (m2 addF (m2 mulF (mVar 1) (m2 addF (mVar 3) (mLit (.int 5)))) (mVar 3)) mNil)) (mCall lenF (mCons (mVar 0) mNil))))) (gN 2) [some (.loc 0), some (.int p), some (.int mx), some (.int k)] [DS (a :: l)] = .nx [some (.loc 0), some (.int p), some (.int (mx + z)), some (.int k)] [DS (a :: l)] := by
        unfold sAsg
        rw [q]
        rfl
      refine ⟨((mx + z) * 16807 + 69621 * k + 5).fmod 2147483629, ?_⟩
      unfold W__law_more_0
      have t3 := (sIf_t (a := _) (b := sSkip) t1).trans ((sSeq_one).trans t2)
      rw [sSeq_nx t3, sSeq_one]
      simp [runB, sSeq, sAsg, sRet, sRetN, sIf, sExpr, sSkip, sSetIx, sPar2, sAug, sCont, sBreak, mVar, mLit, mNil, mCons, mTup, mLst, szOk, sizeLine, mCall, mMeth, isL, isDi, isS, m1, m2, mIf, mAnd, mOr, mNot, mTru, truD, mtAnd, mtOr, mtNot, mB, gN, gT, gCons', gNil', tupOf, Res.sr, Res.bind, trim, trimX, noLoc, noLocs, flat, lstOf, hm]
  have f : ∀ mx : Int, ∃ e' s', sFor (miR1 (mLit (.int 3))) (gN 3) (W__law_more_0 (sem n)) [some (.loc 0), some (.int p), some (.int mx), none] [DS l] = .nx e' s' ∧ ∃ (mx' : Int) (k : Option D), e' = [some (.loc 0), some (.int p), some (.int mx'), k] ∧ s' = [DS l] := by
    intro mx
    refine sFor_inv (n := 3) (nx := rgs 0 3) (s1 := [DS l]) (by simp [miR1, mLit, Res.bind]) (fun i e s => ∃ (mx' : Int) (k : Option D), e = [some (.loc 0), some (.int p), some (.int mx'), k] ∧ s = [DS l]) ⟨_, _, rfl, rfl⟩ (fun e st _ => rgs_end) ?_
    rintro i e st hi ⟨mx', k, rfl, rfl⟩
    obtain ⟨m2, h2⟩ := hs i mx' hi
    exact ⟨.int (0 + i), [some (.loc 0), some (.int p), some (.int mx'), some (.int i)], rgs_lt hi, by simp [gN], _, _, .inl h2, _, _, rfl, rfl⟩
  obtain ⟨_, _, h, mx', k, rfl, rfl⟩ := f ((p * 48271 + l.length + 11).fmod 2147483629)
  refine ⟨mx'.fdiv 1009, ?_⟩
  rw [sem__law_more]
  have t0 : sAsg (m2 modF (mCall intCallF (mCons (m2 addF (m2 addF (m2 mulF (mVar 1) (mLit (.int 48271))) (mCall lenF (mCons (mVar 0) mNil))) (mLit (.int 11))) mNil)) (mLit (.int 2147483629))) (gN 2) [some (.loc 0), some (.int p), none, none] [DS l] = .nx [some (.loc 0), some (.int p), some (.int ((p * 48271 + l.length + 11).fmod 2147483629)), none] [DS l] := by
    simp [runB, sSeq, sAsg, sRet, sRetN, sIf, sExpr, sSkip, sSetIx, sPar2, sAug, sCont, sBreak, mVar, mLit, mNil, mCons, mTup, mLst, szOk, sizeLine, mCall, mMeth, isL, isDi, isS, m1, m2, mIf, mAnd, mOr, mNot, mTru, truD, mtAnd, mtOr, mtNot, mB, gN, gT, gCons', gNil', tupOf, Res.sr, Res.bind, trim, trimX, noLoc, noLocs, flat, lstOf, hl]
  have hB : B__law_more (sem n) [some (.loc 0), some (.int p), none, none] [DS l] = .rt (.int (mx'.fdiv 1009)) [DS l] := by
    unfold B__law_more
    rw [sSeq_nx t0, sSeq_nx h, sSeq_one]
    simp [runB, sSeq, sAsg, sRet, sRetN, sIf, sExpr, sSkip, sSetIx, sPar2, sAug, sCont, sBreak, mVar, mLit, mNil, mCons, mTup, mLst, szOk, sizeLine, mCall, mMeth, isL, isDi, isS, m1, m2, mIf, mAnd, mOr, mNot, mTru, truD, mtAnd, mtOr, mtNot, mB, gN, gT, gCons', gNil', tupOf, Res.sr, Res.bind, trim, trimX, noLoc, noLocs, flat, lstOf, hd]
  show (match B__law_more (sem n) [some (.loc 0), some (.int p), none, none] [DS l] with
    | .nx _ st' => Res.ok D.non (trim 1 D.non st').2
    | .rt d st' => .ok (trim 1 d st').1 (trim 1 d st').2
    | .exc x _ st' => .exc x (trimX 1 x st')
    | _ => .bad) = _
  rw [hB]
  simp [trim, flat, noLoc, ints_nl]
theorem take_ok (n : Nat) (l : List Int) (p m : Int) (hp : 0 ≤ p) (hm : 0 < m) : ∃ r : Int, 0 ≤ r ∧ r < m ∧ sem (n + 2) 2 [.loc 0, .loc 1, .int m] [DS l, .lst [.int p]] = .ok (.int r) [DS l, .lst [.int (p + 1)]] := by
  obtain ⟨z, hz⟩ := more_ok n l p
  have hl : ∀ s, lenF [.loc 0] [DS l, s] = .ok (.int l.length) [DS l, s] := fun s => by
    have := lenF_l (l := l.map D.int) (st := [DS l, s]) (n := 0) rfl
    rw [List.length_map] at this
    exact this
  have hc : callN (sem (n + 1) 1) [.loc 0, .int p] [DS l, .lst [.int (p + 1)]] = .ok (.int z) [DS l, .lst [.int (p + 1)]] := by
    simp only [callN, normA, List.getElem?_cons_zero, DS_flat, if_true, noLoc, addN, place, List.not_mem_nil, if_false, List.nil_append, subSto, List.filterMap_cons, List.filterMap_nil, hz, putBack, List.set_cons_zero]
  have hx : ∃ y : Int, mIf (mB (m2 ltF (mVar 3) (mCall lenF (mCons (mVar 0) mNil)))) (m2 ixF (mVar 0) (mVar 3)) (mCall (callN (sem (n + 1) 1)) (mCons (mVar 0) (mCons (mVar 3) mNil))) [some (.loc 0), some (.loc 1), some (.int m), some (.int p)] [DS l, .lst [.int (p + 1)]] = .ok (.int y) [DS l, .lst [.int (p + 1)]] := by
    by_cases h : p < l.length
    · obtain ⟨j, rfl⟩ := Int.eq_ofNat_of_zero_le hp
      have hj : j < l.length := by omega
      have hi : ixF (.loc 0) (.int (j : Int)) [DS l, .lst [.int ((j : Int) + 1)]] = .ok (.int l[j]) [DS l, .lst [.int ((j : Int) + 1)]] := ixF_nat (l := l.map D.int) rfl (by simp only [List.getElem?_map, List.getElem?_eq_getElem hj]; rfl)
      refine ⟨l[j], ?_⟩
      simp only [mIf, mB, m2, mVar, mCall, mCons, mNil, Res.bind, List.getElem?_cons_zero, List.getElem?_cons_succ, hl, ltF_ii, decide_eq_true h, if_true, hi]
    · refine ⟨z, ?_⟩
      simp only [mIf, mB, m2, mVar, mCall, mCons, mNil, Res.bind, List.getElem?_cons_zero, List.getElem?_cons_succ, hl, ltF_ii, decide_eq_false h, Bool.false_eq_true, if_false, hc]
  obtain ⟨y, hy⟩ := hx
  refine ⟨y.fmod m, Int.fmod_nonneg_of_pos y hm, Int.fmod_lt_of_pos y hm, ?_⟩
  have h0 : m ≠ 0 := by omega
  have a1 : sAsg (m2 ixF (mVar 1) (mLit (.int 0))) (gN 3) [some (.loc 0), some (.loc 1), some (.int m), none] [DS l, .lst [.int p]] = .nx [some (.loc 0), some (.loc 1), some (.int m), some (.int p)] [DS l, .lst [.int p]] := by
    have hi : ixF (.loc 1) (.int 0) [DS l, .lst [.int p]] = .ok (.int p) [DS l, .lst [.int p]] := ixF_nat (i := 0) rfl rfl
    simp [sAsg, m2, mVar, mLit, Res.bind, Res.sr, gN, hi]
  have a2 : sSetIx (mVar 1) (mLit (.int 0)) (m2 addF (mVar 3) (mLit (.int 1))) [some (.loc 0), some (.loc 1), some (.int m), some (.int p)] [DS l, .lst [.int p]] = .nx [some (.loc 0), some (.loc 1), some (.int m), some (.int p)] [DS l, .lst [.int (p + 1)]] := by
    simp [sSetIx, m2, mVar, mLit, Res.bind, Res.sr, setF, L2.ixN]
  have hB : B__law_take (sem (n + 1)) [some (.loc 0), some (.loc 1), some (.int m), none] [DS l, .lst [.int p]] = .rt (.int (y.fmod m)) [DS l, .lst [.int (p + 1)]] := by
    unfold B__law_take
    rw [sSeq_nx a1, sSeq_nx a2, sSeq_one]
    generalize mIf (mB (m2 ltF (mVar 3) (mCall lenF (mCons (mVar 0) mNil)))) (m2 ixF (mVar 0) (mVar 3)) (mCall (callN (sem (n + 1) 1)) (mCons (mVar 0) (mCons (mVar 3) mNil))) = M at hy ⊢
    simp [sRet, m2, mCall, mCons, mNil, mVar, Res.bind, Res.sr, hy, h0]
  rw [sem__law_take]
  show (match B__law_take (sem (n + 1)) [some (.loc 0), some (.loc 1), some (.int m), none] [DS l, .lst [.int p]] with
    | .nx _ st' => Res.ok D.non (trim 2 D.non st').2
    | .rt d st' => .ok (trim 2 d st').1 (trim 2 d st').2
    | .exc x _ st' => .exc x (trimX 2 x st')
    | _ => .bad) = _
  rw [hB]
  simp [trim, flat, noLoc, noLocs, ints_nl]
/-- the law's draw, as it is called -/
theorem take_call (n : Nat) (l : List Int) (p m : Int) (hp : 0 ≤ p) (hm : 0 < m) {st : Sto} {a b : Nat} (ha : st[a]? = some (DS l)) (hb : st[b]? = some (.lst [.int p])) (hab : a ≠ b) :
    ∃ r : Int, 0 ≤ r ∧ r < m ∧ callN (sem (n + 2) 2) [.loc a, .loc b, .int m] st = .ok (.int r) (st.set b (.lst [.int (p + 1)])) := by
  obtain ⟨r, h1, h2, h3⟩ := take_ok n l p m hp hm
  refine ⟨r, h1, h2, ?_⟩
  have hba : ¬ b = a := fun e => hab e.symm
  have hs : (st.set a (DS l)) = st := set_same ha
  have nb : ∀ i : Int, flat (.lst [.int i]) = true := fun i => rfl
  simp [callN, normA, ha, hb, DS_flat, nb, addN, place, hab, hba, subSto, h3, putBack, hs, noLoc]
/-- one of a list's items, as it is called -/
theorem one_ok (n : Nat) (rs : List D) (l : List Int) (p : Int) (hp : 0 ≤ p) (hr : rs ≠ []) (hn : noLocs rs = true) (hd : ∀ d ∈ rs, noLoc d = true) : ∃ d ∈ rs, sem (n + 3) 3 [.loc 0, .loc 1, .loc 2] [.lst rs, DS l, .lst [.int p]] = .ok d [.lst rs, DS l, .lst [.int (p + 1)]] := by
  have hpos : (0 : Int) < rs.length := by
    have := List.length_pos_iff.mpr hr
    omega
  obtain ⟨r, h1, h2, h3⟩ := take_call n l p rs.length hp hpos (st := [.lst rs, DS l, .lst [.int p]]) (a := 1) (b := 2) rfl rfl (by decide)
  obtain ⟨j, rfl⟩ := Int.eq_ofNat_of_zero_le h1
  have hj : j < rs.length := by omega
  have hi : ixF (.loc 0) (.int (j : Int)) [.lst rs, DS l, .lst [.int (p + 1)]] = .ok rs[j] [.lst rs, DS l, .lst [.int (p + 1)]] := ixF_nat rfl (List.getElem?_eq_getElem hj)
  have hl : lenF [.loc 0] [.lst rs, DS l, .lst [.int p]] = .ok (.int rs.length) [.lst rs, DS l, .lst [.int p]] := lenF_l rfl
  have hm : rs[j] ∈ rs := List.getElem_mem hj
  refine ⟨rs[j], hm, ?_⟩
  have hs : [Ob.lst rs, DS l, .lst [.int p]].set 2 (.lst [.int (p + 1)]) = [.lst rs, DS l, .lst [.int (p + 1)]] := rfl
  rw [hs] at h3
  have hB : B__law_one (sem (n + 2)) [some (.loc 0), some (.loc 1), some (.loc 2)] [.lst rs, DS l, .lst [.int p]] = .rt rs[j] [.lst rs, DS l, .lst [.int (p + 1)]] := by
    simp only [B__law_one, sSeq_one, sRet, m2, mCall, mCons, mNil, mVar, Res.bind, Res.sr, List.getElem?_cons_zero, List.getElem?_cons_succ, hl, h3, hi]
  rw [sem__law_one]
  show (match B__law_one (sem (n + 2)) [some (.loc 0), some (.loc 1), some (.loc 2)] [.lst rs, DS l, .lst [.int p]] with
    | .nx _ st' => Res.ok D.non (trim 3 D.non st').2
    | .rt d st' => .ok (trim 3 d st').1 (trim 3 d st').2
    | .exc x _ st' => .exc x (trimX 3 x st')
    | _ => .bad) = _
  rw [hB]
  have hq := hd _ hm
  have ha : ([Ob.lst rs, DS l, Ob.lst [.int (p + 1)]].take 3).all flat = true := by simp [flat, hn, ints_nl, noLocs, noLoc]
  have ht : trim 3 rs[j] [Ob.lst rs, DS l, Ob.lst [.int (p + 1)]] = (rs[j], [Ob.lst rs, DS l, Ob.lst [.int (p + 1)]]) := by
    unfold trim
    rw [if_pos ha]
    cases e : rs[j] with
    | loc m =>
      rw [e] at hq
      cases hq
    | _ =>
      rw [e] at hq
      simp [hq]
  show Res.ok (trim 3 rs[j] [Ob.lst rs, DS l, Ob.lst [.int (p + 1)]]).1 (trim 3 rs[j] [Ob.lst rs, DS l, Ob.lst [.int (p + 1)]]).2 = _
  rw [ht]
theorem nl_all : ∀ {l : List D}, noLocs l = true → ∀ d ∈ l, noLoc d = true
  | [], _, _, h => by cases h
  | a :: l, h, d, hd => by
    simp only [noLocs, Bool.and_eq_true] at h
    rcases List.mem_cons.mp hd with rfl | hd
    · exact h.1
    · exact nl_all h.2 d hd
theorem one_call (n : Nat) (rs : List D) (l : List Int) (p : Int) (hp : 0 ≤ p) (hr : rs ≠ []) (hn : noLocs rs = true) {st : Sto} {c a b : Nat} (hc : st[c]? = some (.lst rs)) (ha : st[a]? = some (DS l)) (hb : st[b]? = some (.lst [.int p])) (hab : a ≠ b) (hca : c ≠ a) (hcb : c ≠ b) :
    ∃ d ∈ rs, callN (sem (n + 3) 3) [.loc c, .loc a, .loc b] st = .ok d (st.set b (.lst [.int (p + 1)])) := by
  obtain ⟨d, h1, h2⟩ := one_ok n rs l p hp hr hn (nl_all hn)
  refine ⟨d, h1, ?_⟩
  have hq := nl_all hn d h1
  have hba : ¬ b = a := fun e => hab e.symm
  have hac : ¬ a = c := fun e => hca e.symm
  have hbc : ¬ b = c := fun e => hcb e.symm
  have hs : (st.set a (DS l)) = st := set_same ha
  have hs2 : (st.set c (.lst rs)) = st := set_same hc
  have nb : ∀ i : Int, flat (.lst [.int i]) = true := fun i => rfl
  have nr : flat (.lst rs) = true := hn
  have key : ∀ r : Res D, r = Res.ok d (st.set b (.lst [.int (p + 1)])) → r = Res.ok d (st.set b (.lst [.int (p + 1)])) := fun _ h => h
  cases d with
  | loc m => cases hq
  | _ => simp [callN, normA, ha, hb, hc, DS_flat, nb, nr, addN, place, hab, hba, hca, hcb, hac, hbc, Ne.symm hca, Ne.symm hcb, Ne.symm hab, subSto, h2, putBack, hs, hs2, hq]

/-- what is raised for k -/
def xk (k : Nat) (one other : D) : Ex := match k with
  | 0 => ⟨0, [("reason", one)]⟩
  | 1 => ⟨1, [("reason", one)]⟩
  | 2 => ⟨2, [("reason", one)]⟩
  | 3 => ⟨3, [("reason", one)]⟩
  | 4 => ⟨4, [("at", one)]⟩
  | 5 => ⟨5, [("reason", other), ("number", one)]⟩
  | _ => ⟨6, [("line", one)]⟩
theorem raise_ok (n k : Nat) (hk : k < 7) (one other : D) (h1 : noLoc one = true) (h2 : noLoc other = true) : sem (n + 1) 5 [.int k, one, other] [] = .exc (xk k one other) [] := by
  rw [sem__law_raise]
  match k, hk with
  | 0, _ => simp [runB, sSeq, sAsg, sRet, sRetN, sIf, sExpr, sSkip, sSetIx, sPar2, sAug, sCont, sBreak, mVar, mLit, mNil, mCons, mTup, mLst, szOk, sizeLine, mCall, mMeth, isL, isDi, isS, m1, m2, mIf, mAnd, mOr, mNot, mTru, truD, mtAnd, mtOr, mtNot, mB, gN, gT, gCons', gNil', tupOf, Res.sr, Res.bind, trim, trimX, noLoc, noLocs, flat, lstOf, B__law_raise, sRaise, sRaise2, xk, h1, h2]
  | 1, _ => simp [runB, sSeq, sAsg, sRet, sRetN, sIf, sExpr, sSkip, sSetIx, sPar2, sAug, sCont, sBreak, mVar, mLit, mNil, mCons, mTup, mLst, szOk, sizeLine, mCall, mMeth, isL, isDi, isS, m1, m2, mIf, mAnd, mOr, mNot, mTru, truD, mtAnd, mtOr, mtNot, mB, gN, gT, gCons', gNil', tupOf, Res.sr, Res.bind, trim, trimX, noLoc, noLocs, flat, lstOf, B__law_raise, sRaise, sRaise2, xk, h1, h2]
  | 2, _ => simp [runB, sSeq, sAsg, sRet, sRetN, sIf, sExpr, sSkip, sSetIx, sPar2, sAug, sCont, sBreak, mVar, mLit, mNil, mCons, mTup, mLst, szOk, sizeLine, mCall, mMeth, isL, isDi, isS, m1, m2, mIf, mAnd, mOr, mNot, mTru, truD, mtAnd, mtOr, mtNot, mB, gN, gT, gCons', gNil', tupOf, Res.sr, Res.bind, trim, trimX, noLoc, noLocs, flat, lstOf, B__law_raise, sRaise, sRaise2, xk, h1, h2]
  | 3, _ => simp [runB, sSeq, sAsg, sRet, sRetN, sIf, sExpr, sSkip, sSetIx, sPar2, sAug, sCont, sBreak, mVar, mLit, mNil, mCons, mTup, mLst, szOk, sizeLine, mCall, mMeth, isL, isDi, isS, m1, m2, mIf, mAnd, mOr, mNot, mTru, truD, mtAnd, mtOr, mtNot, mB, gN, gT, gCons', gNil', tupOf, Res.sr, Res.bind, trim, trimX, noLoc, noLocs, flat, lstOf, B__law_raise, sRaise, sRaise2, xk, h1, h2]
  | 4, _ => simp [runB, sSeq, sAsg, sRet, sRetN, sIf, sExpr, sSkip, sSetIx, sPar2, sAug, sCont, sBreak, mVar, mLit, mNil, mCons, mTup, mLst, szOk, sizeLine, mCall, mMeth, isL, isDi, isS, m1, m2, mIf, mAnd, mOr, mNot, mTru, truD, mtAnd, mtOr, mtNot, mB, gN, gT, gCons', gNil', tupOf, Res.sr, Res.bind, trim, trimX, noLoc, noLocs, flat, lstOf, B__law_raise, sRaise, sRaise2, xk, h1, h2]
  | 5, _ => simp [runB, sSeq, sAsg, sRet, sRetN, sIf, sExpr, sSkip, sSetIx, sPar2, sAug, sCont, sBreak, mVar, mLit, mNil, mCons, mTup, mLst, szOk, sizeLine, mCall, mMeth, isL, isDi, isS, m1, m2, mIf, mAnd, mOr, mNot, mTru, truD, mtAnd, mtOr, mtNot, mB, gN, gT, gCons', gNil', tupOf, Res.sr, Res.bind, trim, trimX, noLoc, noLocs, flat, lstOf, B__law_raise, sRaise, sRaise2, xk, h1, h2]
  | 6, _ => simp [runB, sSeq, sAsg, sRet, sRetN, sIf, sExpr, sSkip, sSetIx, sPar2, sAug, sCont, sBreak, mVar, mLit, mNil, mCons, mTup, mLst, szOk, sizeLine, mCall, mMeth, isL, isDi, isS, m1, m2, mIf, mAnd, mOr, mNot, mTru, truD, mtAnd, mtOr, mtNot, mB, gN, gT, gCons', gNil', tupOf, Res.sr, Res.bind, trim, trimX, noLoc, noLocs, flat, lstOf, B__law_raise, sRaise, sRaise2, xk, h1, h2]
theorem raise_call (n k : Nat) (hk : k < 7) (one other : D) (h1 : noLoc one = true) (h2 : noLoc other = true) (st : Sto) : callN (sem (n + 1) 5) [.int k, one, other] st = .exc (xk k one other) st := by
  refine callN_nlx (by simp [noLocs, noLoc, h1, h2]) (raise_ok n k hk one other h1 h2) ?_
  match k, hk with
  | 0, _ => simp [xk, h1]
  | 1, _ => simp [xk, h1]
  | 2, _ => simp [xk, h1]
  | 3, _ => simp [xk, h1]
  | 4, _ => simp [xk, h1]
  | 5, _ => simp [xk, h1, h2]
  | 6, _ => simp [xk, h1]
def kinds (k : Nat) : List D := (List.range 7).map fun j => .bl (j == k)
theorem kinds_nl (k : Nat) : noLocs (kinds k) = true := by simp [kinds, List.range, List.range.loop, noLocs, noLoc]
theorem body_exc (n k : Nat) (hk : k < 7) (one other : D) (h1 : noLoc one = true) (h2 : noLoc other = true) (st : Sto) : (sSeq (sExpr (mCall (callN (sem (n + 1) 5)) (mCons (mVar 0) (mCons (mVar 1) (mCons (mVar 2) mNil))))) sSkip) [some (.int k), some one, some other, none] st = .exc (xk k one other) [some (.int k), some one, some other, none] st := by
  simp only [sSeq, sExpr, mCall, mCons, mNil, mVar, Res.bind, Res.sr, List.getElem?_cons_zero, List.getElem?_cons_succ, raise_call n k hk one other h1 h2 st]
def ka (k : Nat) : List D := [.bl (0 == k), .bl (1 == k), .bl (2 == k), .bl (3 == k)]
def kb (k : Nat) : List D := [.bl (4 == k), .bl (5 == k), .bl (6 == k)]
theorem caught_ok (n k : Nat) (hk : k < 7) (one other : D) (h1 : noLoc one = true) (h2 : noLoc other = true) : sem (n + 2) 7 [.int k, one, other] [] = .ok (.loc 0) [.lst (kinds k)] := by
  have hb := body_exc n k hk one other h1 h2 []
  have hB : B__law_caught (sem (n + 1)) [some (.int k), some one, some other, none] [] = .rt (.loc 2) [.lst (ka k), .lst (kb k), .lst (kinds k)] := by
    show (match sTryAs sel_ClauseError 3 (sSeq (sExpr (mCall (callN (sem (n + 1) 5)) (mCons (mVar 0) (mCons (mVar 1) (mCons (mVar 2) mNil))))) sSkip) (fun x => (sSeq (sRet (mIf (mTru (mXis is_ValueError x)) (mHot 2 (B__law_kinds x)) (mLst mNil))) sSkip)) [some (.int k), some one, some other, none] [] with
      | .nx e' st' => sSeq (sRet (mLst mNil)) sSkip e' st'
      | r => r) = _
    rw [sTryAs_exc hb]
    match k, hk with
    | 0, _ => rfl
    | 1, _ => rfl
    | 2, _ => rfl
    | 3, _ => rfl
    | 4, _ => rfl
    | 5, _ => rfl
    | 6, _ => rfl
  rw [sem__law_caught]
  show (match B__law_caught (sem (n + 1)) [some (.int k), some one, some other, none] [] with
    | .nx _ st' => Res.ok D.non (trim 0 D.non st').2
    | .rt d st' => .ok (trim 0 d st').1 (trim 0 d st').2
    | .exc x _ st' => .exc x (trimX 0 x st')
    | _ => .bad) = _
  rw [hB]
  match k, hk with
  | 0, _ => rfl
  | 1, _ => rfl
  | 2, _ => rfl
  | 3, _ => rfl
  | 4, _ => rfl
  | 5, _ => rfl
  | 6, _ => rfl
def fieldsD (k : Nat) (one other : D) : D := if k = 5 then .tup [one, other] else .tup [one]
theorem fields_ok (n k : Nat) (hk : k < 7) (one other : D) (h1 : noLoc one = true) (h2 : noLoc other = true) : sem (n + 2) 8 [.int k, one, other] [] = .ok (fieldsD k one other) [] := by
  have hb := body_exc n k hk one other h1 h2 []
  have hB : B__law_fields (sem (n + 1)) [some (.int k), some one, some other, none] [] = .rt (fieldsD k one other) [] := by
    show (match sTryH _ (sSeq (sExpr (mCall (callN (sem (n + 1) 5)) (mCons (mVar 0) (mCons (mVar 1) (mCons (mVar 2) mNil))))) sSkip) [some (.int k), some one, some other, none] [] with
      | .nx e' st' => sSeq (sRet (mLit .non)) sSkip e' st'
      | r => r) = _
    rw [sTryH_exc hb]
    match k, hk with
    | 0, _ => rfl
    | 1, _ => rfl
    | 2, _ => rfl
    | 3, _ => rfl
    | 4, _ => rfl
    | 5, _ => rfl
    | 6, _ => rfl
  rw [sem__law_fields]
  show (match B__law_fields (sem (n + 1)) [some (.int k), some one, some other, none] [] with
    | .nx _ st' => Res.ok D.non (trim 0 D.non st').2
    | .rt d st' => .ok (trim 0 d st').1 (trim 0 d st').2
    | .exc x _ st' => .exc x (trimX 0 x st')
    | _ => .bad) = _
  rw [hB]
  by_cases h5 : k = 5 <;> simp [fieldsD, h5, trim, noLoc, noLocs, h1, h2]
theorem limits_ok (n : Nat) : sem (n + 1) 4 [] [] = .ok (.bl true) [] := by rfl
def valsL : List D := [.str "word", .str "", .str "form", .int 0, .int 17, .int (-3), .non, .tup [.str "a", .int 5], .str "a line", .bl true]
/-- what repr shows of two values -/
theorem show_one {a : D} (h : a ∈ valsL) : ∃ q, (∀ st, pyd st (.tup [a]) = some q) ∧ okShow q = true := by
  simp only [valsL, List.mem_cons, List.not_mem_nil, or_false] at h
  rcases h with rfl | rfl | rfl | rfl | rfl | rfl | rfl | rfl | rfl | rfl <;> exact ⟨_, fun st => by rfl, by decide +kernel⟩
theorem show_two {a b : D} (h : a ∈ valsL) (h2 : b ∈ valsL) : ∃ q, (∀ st, pyd st (.tup [a, b]) = some q) ∧ okShow q = true := by
  simp only [valsL, List.mem_cons, List.not_mem_nil, or_false] at h h2
  rcases h with rfl | rfl | rfl | rfl | rfl | rfl | rfl | rfl | rfl | rfl <;> rcases h2 with rfl | rfl | rfl | rfl | rfl | rfl | rfl | rfl | rfl | rfl <;> exact ⟨_, fun st => by rfl, by decide +kernel⟩
theorem fieldsD_nl (k : Nat) (one other : D) (h1 : noLoc one = true) (h2 : noLoc other = true) : noLoc (fieldsD k one other) = true := by
  by_cases h5 : k = 5 <;> simp [fieldsD, h5, noLoc, noLocs, h1, h2]
theorem vals_nl : noLocs valsL = true := rfl
theorem caught_call (n k : Nat) (hk : k < 7) (one other : D) (h1 : noLoc one = true) (h2 : noLoc other = true) (st : Sto) : callN (sem (n + 2) 7) [.int k, one, other] st = .ok (.loc st.length) (st ++ [.lst (kinds k)]) :=
  callN_new (by simp [noLocs, noLoc, h1, h2]) (caught_ok n k hk one other h1 h2) (kinds_nl k)
theorem fields_call (n k : Nat) (hk : k < 7) (one other : D) (h1 : noLoc one = true) (h2 : noLoc other = true) (st : Sto) : callN (sem (n + 2) 8) [.int k, one, other] st = .ok (fieldsD k one other) st :=
  callN_nl (by simp [noLocs, noLoc, h1, h2]) (fields_ok n k hk one other h1 h2) (fieldsD_nl k one other h1 h2)
theorem comp_ok (k : Nat) (sc a b v : Option D) (one other : D) (z : Option D) (st : Sto) : mLC (miR1 (mLit (.int 7))) (gN 7) mtYes (m2 (eqF false) (mVar 7) (mVar 4)) [7] [sc, a, b, v, some (.int k), some one, some other, z] st = .ok (.loc st.length) (st ++ [.lst (kinds k)]) := by
  have e : ∀ j : Nat, (((j : Int) == (k : Int)) : Bool) = (j == k) := fun j => by
    by_cases h : j = k
    · subst h
      simp
    · have h2 : ¬ (j : Int) = (k : Int) := by omega
      rw [beq_eq_false_iff_ne.mpr h2, beq_eq_false_iff_ne.mpr h]
  exact mLC_pure (n := 7) (nx := rgs 0 7) (f := fun i => .int (0 + i)) (h := fun j => .bl (j == k)) (by simp [miR1, mLit, Res.bind]) (fun i s hi => rgs_lt hi) (fun s => rgs_end) (fun i hi => ⟨_, rfl, fun s => by simp [m2, mVar, Res.bind, wipeD, e]⟩) (by decide)
theorem eq_kinds (k : Nat) (hk : k < 7) (st : Sto) (a b : Nat) (ha : st[a]? = some (.lst (kinds k))) (hb : st[b]? = some (.lst (kinds k))) : eqF true (.loc a) (.loc b) st = .ok (.bl false) st := by
  match k, hk with
  | 0, _ => simp [eqF, py, pyL, pyLs, ha, hb, kinds, List.range, List.range.loop, PyData.eqv, PyData.eqvAll, PyData.depth, PyData.depthAll]
  | 1, _ => simp [eqF, py, pyL, pyLs, ha, hb, kinds, List.range, List.range.loop, PyData.eqv, PyData.eqvAll, PyData.depth, PyData.depthAll]
  | 2, _ => simp [eqF, py, pyL, pyLs, ha, hb, kinds, List.range, List.range.loop, PyData.eqv, PyData.eqvAll, PyData.depth, PyData.depthAll]
  | 3, _ => simp [eqF, py, pyL, pyLs, ha, hb, kinds, List.range, List.range.loop, PyData.eqv, PyData.eqvAll, PyData.depth, PyData.depthAll]
  | 4, _ => simp [eqF, py, pyL, pyLs, ha, hb, kinds, List.range, List.range.loop, PyData.eqv, PyData.eqvAll, PyData.depth, PyData.depthAll]
  | 5, _ => simp [eqF, py, pyL, pyLs, ha, hb, kinds, List.range, List.range.loop, PyData.eqv, PyData.eqvAll, PyData.depth, PyData.depthAll]
  | 6, _ => simp [eqF, py, pyL, pyLs, ha, hb, kinds, List.range, List.range.loop, PyData.eqv, PyData.eqvAll, PyData.depth, PyData.depthAll]
theorem at1 (S : Sto) (x y : Ob) : (S ++ [x] ++ [y])[S.length]? = some x := by
  rw [List.append_assoc, List.getElem?_append_right (Nat.le_refl _), Nat.sub_self]
  rfl
theorem at2 (S : Sto) (x y : Ob) : (S ++ [x] ++ [y])[(S ++ [x]).length]? = some y := by
  rw [List.getElem?_append_right (Nat.le_refl _), Nat.sub_self]
  rfl
theorem turn_ok (k : Nat) (hk : k < 7) (l : List Int) (p : Int) (hp : 0 ≤ p) (sc : D) (z5 z6 z7 : Option D) (J : Sto) : ∃ (p' : Int) (z5' z6' : Option D) (J' : Sto), 0 ≤ p' ∧
    W_law_0 (sem 149) [some sc, some (.loc 0), some (.loc 1), some (.loc 2), some (.int k), z5, z6, z7] (DS l :: Ob.lst [.int p] :: Ob.lst valsL :: J) = .nx [some sc, some (.loc 0), some (.loc 1), some (.loc 2), some (.int k), z5', z6', z7] (DS l :: Ob.lst [.int p'] :: Ob.lst valsL :: J') := by
  obtain ⟨one, o1, o2⟩ := one_call 146 valsL l p hp (by simp [valsL]) vals_nl (st := DS l :: Ob.lst [.int p] :: Ob.lst valsL :: J) (c := 2) (a := 0) (b := 1) rfl rfl rfl (by decide) (by decide) (by decide)
  obtain ⟨other, t1, t2⟩ := one_call 146 valsL l (p + 1) (by omega) (by simp [valsL]) vals_nl (st := DS l :: Ob.lst [.int (p + 1)] :: Ob.lst valsL :: J) (c := 2) (a := 0) (b := 1) rfl rfl rfl (by decide) (by decide) (by decide)
  have n1 := nl_all vals_nl one o1
  have n2 := nl_all vals_nl other t1
  have s1 : (DS l :: Ob.lst [.int p] :: Ob.lst valsL :: J).set 1 (.lst [.int (p + 1)]) = DS l :: Ob.lst [.int (p + 1)] :: Ob.lst valsL :: J := rfl
  have s2 : (DS l :: Ob.lst [.int (p + 1)] :: Ob.lst valsL :: J).set 1 (.lst [.int (p + 1 + 1)]) = DS l :: Ob.lst [.int (p + 1 + 1)] :: Ob.lst valsL :: J := rfl
  rw [s1] at o2
  rw [s2] at t2
  have hA : sPar2 5 6 (mCons (mCall (callN (sem 149 3)) (mCons (mVar 3) (mCons (mVar 1) (mCons (mVar 2) mNil)))) (mCons (mCall (callN (sem 149 3)) (mCons (mVar 3) (mCons (mVar 1) (mCons (mVar 2) mNil)))) mNil)) [some sc, some (.loc 0), some (.loc 1), some (.loc 2), some (.int k), z5, z6, z7] (DS l :: Ob.lst [.int p] :: Ob.lst valsL :: J) =
      .nx [some sc, some (.loc 0), some (.loc 1), some (.loc 2), some (.int k), some one, some other, z7] (DS l :: Ob.lst [.int (p + 1 + 1)] :: Ob.lst valsL :: J) := by
    simp only [sPar2, mCons, mCall, mNil, mVar, Res.bind, Res.sr, List.getElem?_cons_zero, List.getElem?_cons_succ, o2, t2, List.set_cons_succ, List.set_cons_zero]
  have c := caught_call 147 k hk one other n1 n2 (DS l :: Ob.lst [.int (p + 1 + 1)] :: Ob.lst valsL :: J)
  have q := comp_ok k (some sc) (some (.loc 0)) (some (.loc 1)) (some (.loc 2)) one other z7 (DS l :: Ob.lst [.int (p + 1 + 1)] :: Ob.lst valsL :: J ++ [Ob.lst (kinds k)])
  have eqk := eq_kinds k hk (DS l :: Ob.lst [.int (p + 1 + 1)] :: Ob.lst valsL :: J ++ [Ob.lst (kinds k)] ++ [Ob.lst (kinds k)]) (DS l :: Ob.lst [.int (p + 1 + 1)] :: Ob.lst valsL :: J).length (DS l :: Ob.lst [.int (p + 1 + 1)] :: Ob.lst valsL :: J ++ [Ob.lst (kinds k)]).length (at1 _ _ _) (at2 _ _ _)
  have hB : mB (m2 (eqF true) (mCall (callN (sem 149 7)) (mCons (mVar 4) (mCons (mVar 5) (mCons (mVar 6) mNil)))) (mLC (miR1 (mLit (.int 7))) (gN 7) mtYes (m2 (eqF false) (mVar 7) (mVar 4)) [7])) [some sc, some (.loc 0), some (.loc 1), some (.loc 2), some (.int k), some one, some other, z7] (DS l :: Ob.lst [.int (p + 1 + 1)] :: Ob.lst valsL :: J) =
      .ok false (DS l :: Ob.lst [.int (p + 1 + 1)] :: Ob.lst valsL :: J ++ [Ob.lst (kinds k)] ++ [Ob.lst (kinds k)]) := by
    generalize mLC (miR1 (mLit (.int 7))) (gN 7) mtYes (m2 (eqF false) (mVar 7) (mVar 4)) [7] = M at q ⊢
    simp only [mB, m2, mCall, mCons, mNil, mVar, Res.bind, List.getElem?_cons_zero, List.getElem?_cons_succ, c, q, eqk]
  have f := fields_call 147 k hk one other n1 n2 (DS l :: Ob.lst [.int (p + 1 + 1)] :: Ob.lst valsL :: J ++ [Ob.lst (kinds k)] ++ [Ob.lst (kinds k)])
  have hm : mReprEq true (mCall (callN (sem 149 8)) (mCons (mVar 4) (mCons (mVar 5) (mCons (mVar 6) mNil)))) (mIf (mB (m2 (eqF false) (mVar 4) (mLit (.int 5)))) (mTup (mCons (mVar 5) (mCons (mVar 6) mNil))) (mTup (mCons (mVar 5) mNil))) [some sc, some (.loc 0), some (.loc 1), some (.loc 2), some (.int k), some one, some other, z7] (DS l :: Ob.lst [.int (p + 1 + 1)] :: Ob.lst valsL :: J ++ [Ob.lst (kinds k)] ++ [Ob.lst (kinds k)]) =
      .ok (.bl (true ^^ true)) (DS l :: Ob.lst [.int (p + 1 + 1)] :: Ob.lst valsL :: J ++ [Ob.lst (kinds k)] ++ [Ob.lst (kinds k)]) := by
    have hq : ∃ q, (∀ st, pyd st (fieldsD k one other) = some q) ∧ okShow q = true := by
      by_cases h5 : k = 5
      · unfold fieldsD
        rw [if_pos h5]
        exact show_two o1 t1
      · unfold fieldsD
        rw [if_neg h5]
        exact show_one o1
    obtain ⟨q, q1, q2⟩ := hq
    refine mReprEq_same (x := fieldsD k one other) (s1 := DS l :: Ob.lst [.int (p + 1 + 1)] :: Ob.lst valsL :: J ++ [Ob.lst (kinds k)] ++ [Ob.lst (kinds k)]) (by simp only [mCall, mCons, mNil, mVar, Res.bind, List.getElem?_cons_zero, List.getElem?_cons_succ, f]) ?_ q1 q2
    have e5 : (((k : Int) == 5) : Bool) = decide (k = 5) := by
      by_cases h : k = 5
      · subst h
        rfl
      · have h2 : ¬ (k : Int) = 5 := by omega
        simp [h, h2]
    by_cases h5 : k = 5 <;> simp [mIf, mB, m2, mVar, mLit, mTup, mCons, mNil, Res.bind, e5, h5, fieldsD, szOk, sizeLine]
  have hC : mB (mReprEq true (mCall (callN (sem 149 8)) (mCons (mVar 4) (mCons (mVar 5) (mCons (mVar 6) mNil)))) (mIf (mB (m2 (eqF false) (mVar 4) (mLit (.int 5)))) (mTup (mCons (mVar 5) (mCons (mVar 6) mNil))) (mTup (mCons (mVar 5) mNil)))) [some sc, some (.loc 0), some (.loc 1), some (.loc 2), some (.int k), some one, some other, z7] (DS l :: Ob.lst [.int (p + 1 + 1)] :: Ob.lst valsL :: J ++ [Ob.lst (kinds k)] ++ [Ob.lst (kinds k)]) =
      .ok false (DS l :: Ob.lst [.int (p + 1 + 1)] :: Ob.lst valsL :: J ++ [Ob.lst (kinds k)] ++ [Ob.lst (kinds k)]) := by
    exact mB_of hm
  refine ⟨p + 1 + 1, some one, some other, J ++ [Ob.lst (kinds k)] ++ [Ob.lst (kinds k)], by omega, ?_⟩
  unfold W_law_0
  rw [sSeq_nx hA, sSeq_nx (sIf_skip hB), sSeq_one, sIf_f hC]
  rfl
theorem law_true : ∀ ns : List Int, ns.length ≤ 63 → (∀ z ∈ ns, Builtin.Int.intBits z ≤ 1048576) → ∃ st', sem 150 9 [.fz (ns.map D.int)] [] = .ok (.bl true) st' := by
  intro ns _ _
  obtain ⟨l, _, hd⟩ := draws_ok 148 ns
  have dc : callN (sem 149 0) [.fz (ns.map D.int)] [] = .ok (.loc 0) [DS l] := by
    simp [callN, normA, noLoc, ints_nl, subSto, hd, putBack, DS_flat]
  have lc : callN (sem 149 4) [] [DS l, .lst [.int 0]] = .ok (.bl true) [DS l, .lst [.int 0]] := callN_nl rfl (limits_ok 148) rfl
  have f : ∃ e' s', sFor (miR1 (mLit (.int 7))) (gN 4) (W_law_0 (sem 149)) [some (.fz (ns.map D.int)), some (.loc 0), some (.loc 1), some (.loc 2), none, none, none, none] [DS l, .lst [.int 0], .lst valsL] = .nx e' s' ∧
      ∃ (z4 z5 z6 z7 : Option D) (p : Int) (J : Sto), 0 ≤ p ∧ e' = [some (.fz (ns.map D.int)), some (.loc 0), some (.loc 1), some (.loc 2), z4, z5, z6, z7] ∧ s' = DS l :: .lst [.int p] :: .lst valsL :: J := by
    refine sFor_inv (n := 7) (nx := rgs 0 7) (s1 := [DS l, .lst [.int 0], .lst valsL]) (by simp [miR1, mLit, Res.bind]) (fun i e s => ∃ (z4 z5 z6 z7 : Option D) (p : Int) (J : Sto), 0 ≤ p ∧ e = [some (.fz (ns.map D.int)), some (.loc 0), some (.loc 1), some (.loc 2), z4, z5, z6, z7] ∧ s = DS l :: .lst [.int p] :: .lst valsL :: J)
      ⟨_, _, _, _, 0, [], by decide, rfl, rfl⟩ (fun e st _ => rgs_end) ?_
    rintro i e st hi ⟨z4, z5, z6, z7, p, J, hp, rfl, rfl⟩
    obtain ⟨p', z5', z6', J', h1, h2⟩ := turn_ok i hi l p hp (.fz (ns.map D.int)) z5 z6 z7 J
    exact ⟨.int (0 + i), [some (.fz (ns.map D.int)), some (.loc 0), some (.loc 1), some (.loc 2), some (.int i), z5, z6, z7], rgs_lt hi, by simp [gN], _, _, .inl h2, _, _, _, _, p', J', h1, rfl, rfl⟩
  obtain ⟨_, _, h, z4, z5, z6, z7, p, J, hp, rfl, rfl⟩ := f
  have hA : sAsg (mCall (callN (sem 149 0)) (mCons (mVar 0) mNil)) (gN 1) [some (.fz (ns.map D.int)), none, none, none, none, none, none, none] [] = .nx [some (.fz (ns.map D.int)), some (.loc 0), none, none, none, none, none, none] [DS l] := by
    simp only [sAsg, mCall, mCons, mNil, mVar, Res.bind, Res.sr, gN, List.getElem?_cons_zero, dc, List.set_cons_succ, List.set_cons_zero]
  have hC : sAsg (mLst (mCons (mLit (.int 0)) mNil)) (gN 2) [some (.fz (ns.map D.int)), some (.loc 0), none, none, none, none, none, none] [DS l] = .nx [some (.fz (ns.map D.int)), some (.loc 0), some (.loc 1), none, none, none, none, none] [DS l, .lst [.int 0]] := by rfl
  have hL : mtNot (mTru (mCall (callN (sem 149 4)) mNil)) [some (.fz (ns.map D.int)), some (.loc 0), some (.loc 1), none, none, none, none, none] [DS l, .lst [.int 0]] = .ok false [DS l, .lst [.int 0]] := by
    simp only [mtNot, mTru, mCall, mNil, Res.bind, lc, truD, Bool.not_true]
  have hV : sAsg (mLst (mCons (mLit (.str "word")) (mCons (mLit (.str "")) (mCons (mLit (.str "form")) (mCons (mLit (.int 0)) (mCons (mLit (.int 17)) (mCons (m1 negF (mLit (.int 3))) (mCons (mLit .non) (mCons (mTup (mCons (mLit (.str "a")) (mCons (mLit (.int 5)) mNil))) (mCons (mLit (.str "a line")) (mCons (mLit (.bl true)) mNil))))))))))) (gN 3) [some (.fz (ns.map D.int)), some (.loc 0), some (.loc 1), none, none, none, none, none] [DS l, .lst [.int 0]] =
      .nx [some (.fz (ns.map D.int)), some (.loc 0), some (.loc 1), some (.loc 2), none, none, none, none] [DS l, .lst [.int 0], .lst valsL] := by rfl
  have hB : B_law (sem 149) [some (.fz (ns.map D.int)), none, none, none, none, none, none, none] [] = .rt (.bl true) (DS l :: .lst [.int p] :: .lst valsL :: J) := by
    unfold B_law
    rw [sSeq_nx hA, sSeq_nx hC, sSeq_nx (sIf_skip hL), sSeq_nx hV, sSeq_nx h, sSeq_one]
    rfl
  refine ⟨[], ?_⟩
  show (match B_law (sem 149) [some (.fz (ns.map D.int)), none, none, none, none, none, none, none] [] with
    | .nx _ st' => Res.ok D.non (trim 0 D.non st').2
    | .rt d st' => .ok (trim 0 d st').1 (trim 0 d st').2
    | .exc x _ st' => .exc x (trimX 0 x st')
    | _ => .bad) = _
  rw [hB]
  simp [trim, noLoc]
end K00

open PySem PySem.W PyProof.Rows
set_option maxRecDepth 100000 in
set_option maxHeartbeats 0 in
theorem PySem.Challenge.cw_answersinturn_k00_errors_and_limits_holds : PySem.Challenge.rw_answersinturn_k00_errors_and_limits.Holds := by
  w_on; o_law; k_head; (case hw => w_witness2)
  k_fill
  refine Mp.go_walk (l := PySem.Challenge.rw_answersinturn_k00_errors_and_limits) (n := 63) (k := 60 + 150) (x := "script") (f := K00.sem 150 9) rfl (by decide) rfl ⟨rfl, by decide, by decide⟩ (fun w h Y => PySem.W.kIn_of Y) ?F K00.law_true
  case F =>
    intro w mg fa h KX G hmg
    refine' K00.mk KX G hmg ?a0 ?l0 ?c0 ?k0 ?a1 ?l1 ?c1 ?k1 ?a2 ?l2 ?c2 ?k2 ?a3 ?l3 ?c3 ?k3 ?a4 ?l4 ?c4 ?k4 ?a5 ?l5 ?c5 ?k5 ?a6 ?l6 ?c6 ?k6 ?a7 ?l7 ?c7 ?k7 ?a8 ?l8 ?c8 ?k8 ?a9 ?l9 ?c9 ?k9 ?n_ValueError ?n_abs ?n_int ?n_isinstance ?n_len ?n_range ?n_repr ?g_MAX_ANSWERS ?g_MAX_ARGUMENTS ?g_MAX_CELLS ?g_MAX_CLAUSES ?g_MAX_EVENTS ?g_MAX_LINES ?g_MAX_NAME ?g_MAX_NUMBER ?g_MAX_SIZE ?g_MAX_STEPS ?g_MAX_TABLE ?g_MAX_TEXT ?g_MAX_WORK ?C_a_ArgumentError ?C_a_PaperError ?C_a_TooMany ?C_a_CheckError ?C_a_TextError ?C_a_LogError ?C_a_CommandError ?C_a_ClauseError ?C_a_ReasonError ?oany ?n_super ?F_i_ReasonError ?F_l_ReasonError ?F_c_ReasonError ?F_A_ReasonError ?F_v_ReasonError ?F_f_ReasonError ?F_B_ReasonError ?F_t_ReasonError ?F_h_ReasonError ?F_i_TextError ?F_l_TextError ?F_c_TextError ?F_A_TextError ?F_v_TextError ?F_f_TextError ?F_B_TextError ?F_t_TextError ?F_h_TextError ?F_i_LogError ?F_l_LogError ?F_c_LogError ?F_A_LogError ?F_v_LogError ?F_f_LogError ?F_B_LogError ?F_t_LogError ?F_h_LogError ?F_i_CommandError ?F_l_CommandError ?F_c_CommandError ?F_A_CommandError ?F_v_CommandError ?F_f_CommandError ?F_B_CommandError ?F_t_CommandError ?F_h_CommandError ?X_l_ArgumentError ?X_t_ArgumentError ?X_u_ArgumentError ?X_s_ArgumentError ?X_a_ArgumentError ?X_g_ArgumentError ?X_h_ArgumentError ?X_n_reason_ArgumentError ?X_b_ArgumentError ?X_d_ArgumentError ?X_i_ArgumentError ?X_k_ArgumentError ?X_y_ArgumentError ?X_m_ArgumentError ?X_l_PaperError ?X_t_PaperError ?X_u_PaperError ?X_s_PaperError ?X_a_PaperError ?X_g_PaperError ?X_h_PaperError ?X_n_reason_PaperError ?X_b_PaperError ?X_d_PaperError ?X_i_PaperError ?X_k_PaperError ?X_y_PaperError ?X_m_PaperError ?X_l_TooMany ?X_t_TooMany ?X_u_TooMany ?X_s_TooMany ?X_a_TooMany ?X_g_TooMany ?X_h_TooMany ?X_n_reason_TooMany ?X_b_TooMany ?X_d_TooMany ?X_i_TooMany ?X_k_TooMany ?X_y_TooMany ?X_m_TooMany ?X_l_CheckError ?X_t_CheckError ?X_u_CheckError ?X_s_CheckError ?X_a_CheckError ?X_g_CheckError ?X_h_CheckError ?X_n_reason_CheckError ?X_b_CheckError ?X_d_CheckError ?X_i_CheckError ?X_k_CheckError ?X_y_CheckError ?X_m_CheckError ?X_l_TextError ?X_t_TextError ?X_u_TextError ?X_s_TextError ?X_a_TextError ?X_g_TextError ?X_h_TextError ?X_n_at_TextError ?X_b_TextError ?X_d_TextError ?X_i_TextError ?X_k_TextError ?X_y_TextError ?X_m_TextError ?X_l_LogError ?X_t_LogError ?X_u_LogError ?X_s_LogError ?X_a_LogError ?X_g_LogError ?X_h_LogError ?X_n_number_LogError ?X_n_reason_LogError ?X_b_LogError ?X_d_LogError ?X_i_LogError ?X_k_LogError ?X_y_LogError ?X_m_LogError ?X_l_CommandError ?X_t_CommandError ?X_u_CommandError ?X_s_CommandError ?X_a_CommandError ?X_g_CommandError ?X_h_CommandError ?X_n_line_CommandError ?X_b_CommandError ?X_d_CommandError ?X_i_CommandError ?X_k_CommandError ?X_y_CommandError ?X_m_CommandError ?E_n ?E_t ?E_a_ArgumentError ?E_m_ArgumentError ?E_a_PaperError ?E_m_PaperError ?E_a_TooMany ?E_m_TooMany ?E_a_CheckError ?E_m_CheckError ?E_a_TextError ?E_m_TextError ?E_a_LogError ?E_m_LogError ?E_a_CommandError ?E_m_CommandError ?K_b_ArgumentError ?K_d_ArgumentError ?K_y_ArgumentError ?K_s_ArgumentError_ArgumentError ?K_s_PaperError_ArgumentError ?K_s_TooMany_ArgumentError ?K_s_CheckError_ArgumentError ?K_s_TextError_ArgumentError ?K_s_LogError_ArgumentError ?K_s_CommandError_ArgumentError ?K_b_CheckError ?K_d_CheckError ?K_y_CheckError ?K_s_ArgumentError_CheckError ?K_s_PaperError_CheckError ?K_s_TooMany_CheckError ?K_s_CheckError_CheckError ?K_s_TextError_CheckError ?K_s_LogError_CheckError ?K_s_CommandError_CheckError ?K_b_CommandError ?K_d_CommandError ?K_y_CommandError ?K_s_ArgumentError_CommandError ?K_s_PaperError_CommandError ?K_s_TooMany_CommandError ?K_s_CheckError_CommandError ?K_s_TextError_CommandError ?K_s_LogError_CommandError ?K_s_CommandError_CommandError ?K_b_LogError ?K_d_LogError ?K_y_LogError ?K_s_ArgumentError_LogError ?K_s_PaperError_LogError ?K_s_TooMany_LogError ?K_s_CheckError_LogError ?K_s_TextError_LogError ?K_s_LogError_LogError ?K_s_CommandError_LogError ?K_b_PaperError ?K_d_PaperError ?K_y_PaperError ?K_s_ArgumentError_PaperError ?K_s_PaperError_PaperError ?K_s_TooMany_PaperError ?K_s_CheckError_PaperError ?K_s_TextError_PaperError ?K_s_LogError_PaperError ?K_s_CommandError_PaperError ?K_b_TextError ?K_d_TextError ?K_y_TextError ?K_s_ArgumentError_TextError ?K_s_PaperError_TextError ?K_s_TooMany_TextError ?K_s_CheckError_TextError ?K_s_TextError_TextError ?K_s_LogError_TextError ?K_s_CommandError_TextError ?K_b_TooMany ?K_d_TooMany ?K_y_TooMany ?K_s_ArgumentError_TooMany ?K_s_PaperError_TooMany ?K_s_TooMany_TooMany ?K_s_CheckError_TooMany ?K_s_TextError_TooMany ?K_s_LogError_TooMany ?K_s_CommandError_TooMany ?K_s_ArgumentError_ValueError ?K_s_PaperError_ValueError ?K_s_TooMany_ValueError ?K_s_CheckError_ValueError ?K_s_TextError_ValueError ?K_s_LogError_ValueError ?K_s_CommandError_ValueError ?K_b_ClauseError ?K_d_ClauseError ?K_y_ClauseError ?K_s_ArgumentError_ClauseError ?K_s_PaperError_ClauseError ?K_s_TooMany_ClauseError ?K_s_CheckError_ClauseError ?K_s_TextError_ClauseError ?K_s_LogError_ClauseError ?K_s_CommandError_ClauseError ?K_e_PaperError_ArgumentError ?K_e_TooMany_ArgumentError ?K_e_CheckError_ArgumentError ?K_e_TextError_ArgumentError ?K_e_LogError_ArgumentError ?K_e_CommandError_ArgumentError ?K_e_ArgumentError_CheckError ?K_e_PaperError_CheckError ?K_e_TooMany_CheckError ?K_e_TextError_CheckError ?K_e_LogError_CheckError ?K_e_CommandError_CheckError ?K_e_ArgumentError_CommandError ?K_e_PaperError_CommandError ?K_e_TooMany_CommandError ?K_e_CheckError_CommandError ?K_e_TextError_CommandError ?K_e_LogError_CommandError ?K_e_ArgumentError_LogError ?K_e_PaperError_LogError ?K_e_TooMany_LogError ?K_e_CheckError_LogError ?K_e_TextError_LogError ?K_e_CommandError_LogError ?K_e_ArgumentError_PaperError ?K_e_TooMany_PaperError ?K_e_CheckError_PaperError ?K_e_TextError_PaperError ?K_e_LogError_PaperError ?K_e_CommandError_PaperError ?K_e_ArgumentError_TextError ?K_e_PaperError_TextError ?K_e_TooMany_TextError ?K_e_CheckError_TextError ?K_e_LogError_TextError ?K_e_CommandError_TextError ?K_e_ArgumentError_TooMany ?K_e_PaperError_TooMany ?K_e_CheckError_TooMany ?K_e_TextError_TooMany ?K_e_LogError_TooMany ?K_e_CommandError_TooMany
    (case a0 => k_is)
    (case l0 => k_is)
    (case c0 => k_is)
    (case k0 => k_is)
    (case a1 => k_is)
    (case l1 => k_is)
    (case c1 => k_is)
    (case k1 => k_is)
    (case a2 => k_is)
    (case l2 => k_is)
    (case c2 => k_is)
    (case k2 => k_is)
    (case a3 => k_is)
    (case l3 => k_is)
    (case c3 => k_is)
    (case k3 => k_is)
    (case a4 => k_is)
    (case l4 => k_is)
    (case c4 => k_is)
    (case k4 => k_is)
    (case a5 => k_is)
    (case l5 => k_is)
    (case c5 => k_is)
    (case k5 => k_is)
    (case a6 => k_is)
    (case l6 => k_is)
    (case c6 => k_is)
    (case k6 => k_is)
    (case a7 => k_is)
    (case l7 => k_is)
    (case c7 => k_is)
    (case k7 => k_is)
    (case a8 => k_is)
    (case l8 => k_is)
    (case c8 => k_is)
    (case k8 => k_is)
    (case a9 => k_is)
    (case l9 => k_is)
    (case c9 => k_is)
    (case k9 => k_is)
    (case n_ValueError => k_is)
    (case n_abs => k_is)
    (case n_int => k_is)
    (case n_isinstance => k_is)
    (case n_len => k_is)
    (case n_range => k_is)
    (case n_repr => k_is)
    (case g_MAX_ANSWERS => k_is)
    (case g_MAX_ARGUMENTS => k_is)
    (case g_MAX_CELLS => k_is)
    (case g_MAX_CLAUSES => k_is)
    (case g_MAX_EVENTS => k_is)
    (case g_MAX_LINES => k_is)
    (case g_MAX_NAME => k_is)
    (case g_MAX_NUMBER => k_is)
    (case g_MAX_SIZE => k_is)
    (case g_MAX_STEPS => k_is)
    (case g_MAX_TABLE => k_is)
    (case g_MAX_TEXT => k_is)
    (case g_MAX_WORK => k_is)
    (case C_a_ArgumentError => k_is)
    (case C_a_PaperError => k_is)
    (case C_a_TooMany => k_is)
    (case C_a_CheckError => k_is)
    (case C_a_TextError => k_is)
    (case C_a_LogError => k_is)
    (case C_a_CommandError => k_is)
    (case C_a_ClauseError => k_is)
    (case C_a_ReasonError => k_is)
    (case oany => k_is)
    (case n_super => k_is)
    (case F_i_ReasonError => k_is)
    (case F_l_ReasonError => k_is)
    (case F_c_ReasonError => k_is)
    (case F_A_ReasonError => k_is)
    (case F_v_ReasonError => rfl)
    (case F_f_ReasonError => decide +kernel)
    (case F_B_ReasonError => k_is)
    (case F_t_ReasonError => k_is)
    (case F_h_ReasonError => k_is)
    (case F_i_TextError => k_is)
    (case F_l_TextError => k_is)
    (case F_c_TextError => k_is)
    (case F_A_TextError => k_is)
    (case F_v_TextError => rfl)
    (case F_f_TextError => decide +kernel)
    (case F_B_TextError => k_is)
    (case F_t_TextError => k_is)
    (case F_h_TextError => k_is)
    (case F_i_LogError => k_is)
    (case F_l_LogError => k_is)
    (case F_c_LogError => k_is)
    (case F_A_LogError => k_is)
    (case F_v_LogError => rfl)
    (case F_f_LogError => decide +kernel)
    (case F_B_LogError => k_is)
    (case F_t_LogError => k_is)
    (case F_h_LogError => k_is)
    (case F_i_CommandError => k_is)
    (case F_l_CommandError => k_is)
    (case F_c_CommandError => k_is)
    (case F_A_CommandError => k_is)
    (case F_v_CommandError => rfl)
    (case F_f_CommandError => decide +kernel)
    (case F_B_CommandError => k_is)
    (case F_t_CommandError => k_is)
    (case F_h_CommandError => k_is)
    (case X_l_ArgumentError => k_is)
    (case X_t_ArgumentError => first | exact Mp.XTail.ve rfl | exact Mp.XTail.ex)
    (case X_u_ArgumentError => ks_is)
    (case X_s_ArgumentError => k_is)
    (case X_a_ArgumentError => k_is)
    (case X_g_ArgumentError => k_is)
    (case X_h_ArgumentError => k_is)
    (case X_n_reason_ArgumentError => k_is)
    (case X_b_ArgumentError => k_is)
    (case X_d_ArgumentError => k_is)
    (case X_i_ArgumentError => k_is)
    (case X_k_ArgumentError => k_is)
    (case X_y_ArgumentError => k_is)
    (case X_m_ArgumentError => k_is)
    (case X_l_PaperError => k_is)
    (case X_t_PaperError => first | exact Mp.XTail.ve rfl | exact Mp.XTail.ex)
    (case X_u_PaperError => ks_is)
    (case X_s_PaperError => k_is)
    (case X_a_PaperError => k_is)
    (case X_g_PaperError => k_is)
    (case X_h_PaperError => k_is)
    (case X_n_reason_PaperError => k_is)
    (case X_b_PaperError => k_is)
    (case X_d_PaperError => k_is)
    (case X_i_PaperError => k_is)
    (case X_k_PaperError => k_is)
    (case X_y_PaperError => k_is)
    (case X_m_PaperError => k_is)
    (case X_l_TooMany => k_is)
    (case X_t_TooMany => first | exact Mp.XTail.ve rfl | exact Mp.XTail.ex)
    (case X_u_TooMany => ks_is)
    (case X_s_TooMany => k_is)
    (case X_a_TooMany => k_is)
    (case X_g_TooMany => k_is)
    (case X_h_TooMany => k_is)
    (case X_n_reason_TooMany => k_is)
    (case X_b_TooMany => k_is)
    (case X_d_TooMany => k_is)
    (case X_i_TooMany => k_is)
    (case X_k_TooMany => k_is)
    (case X_y_TooMany => k_is)
    (case X_m_TooMany => k_is)
    (case X_l_CheckError => k_is)
    (case X_t_CheckError => first | exact Mp.XTail.ve rfl | exact Mp.XTail.ex)
    (case X_u_CheckError => ks_is)
    (case X_s_CheckError => k_is)
    (case X_a_CheckError => k_is)
    (case X_g_CheckError => k_is)
    (case X_h_CheckError => k_is)
    (case X_n_reason_CheckError => k_is)
    (case X_b_CheckError => k_is)
    (case X_d_CheckError => k_is)
    (case X_i_CheckError => k_is)
    (case X_k_CheckError => k_is)
    (case X_y_CheckError => k_is)
    (case X_m_CheckError => k_is)
    (case X_l_TextError => k_is)
    (case X_t_TextError => first | exact Mp.XTail.ve rfl | exact Mp.XTail.ex)
    (case X_u_TextError => ks_is)
    (case X_s_TextError => k_is)
    (case X_a_TextError => k_is)
    (case X_g_TextError => k_is)
    (case X_h_TextError => k_is)
    (case X_n_at_TextError => k_is)
    (case X_b_TextError => k_is)
    (case X_d_TextError => k_is)
    (case X_i_TextError => k_is)
    (case X_k_TextError => k_is)
    (case X_y_TextError => k_is)
    (case X_m_TextError => k_is)
    (case X_l_LogError => k_is)
    (case X_t_LogError => exact ⟨rfl, rfl, rfl, rfl⟩)
    (case X_u_LogError => ks_is)
    (case X_s_LogError => k_is)
    (case X_a_LogError => k_is)
    (case X_g_LogError => k_is)
    (case X_h_LogError => k_is)
    (case X_n_number_LogError => k_is)
    (case X_n_reason_LogError => k_is)
    (case X_b_LogError => k_is)
    (case X_d_LogError => k_is)
    (case X_i_LogError => k_is)
    (case X_k_LogError => k_is)
    (case X_y_LogError => k_is)
    (case X_m_LogError => k_is)
    (case X_l_CommandError => k_is)
    (case X_t_CommandError => first | exact Mp.XTail.ve rfl | exact Mp.XTail.ex)
    (case X_u_CommandError => ks_is)
    (case X_s_CommandError => k_is)
    (case X_a_CommandError => k_is)
    (case X_g_CommandError => k_is)
    (case X_h_CommandError => k_is)
    (case X_n_line_CommandError => k_is)
    (case X_b_CommandError => k_is)
    (case X_d_CommandError => k_is)
    (case X_i_CommandError => k_is)
    (case X_k_CommandError => k_is)
    (case X_y_CommandError => k_is)
    (case X_m_CommandError => k_is)
    (case E_n => k_is)
    (case E_t => k_is)
    (case E_a_ArgumentError => k_is)
    (case E_m_ArgumentError => k_is)
    (case E_a_PaperError => k_is)
    (case E_m_PaperError => k_is)
    (case E_a_TooMany => k_is)
    (case E_m_TooMany => k_is)
    (case E_a_CheckError => k_is)
    (case E_m_CheckError => k_is)
    (case E_a_TextError => k_is)
    (case E_m_TextError => k_is)
    (case E_a_LogError => k_is)
    (case E_m_LogError => k_is)
    (case E_a_CommandError => k_is)
    (case E_m_CommandError => k_is)
    (case K_b_ArgumentError => k_is)
    (case K_d_ArgumentError => k_is)
    (case K_y_ArgumentError => k_is)
    (case K_s_ArgumentError_ArgumentError => k_is)
    (case K_s_PaperError_ArgumentError => k_is)
    (case K_s_TooMany_ArgumentError => k_is)
    (case K_s_CheckError_ArgumentError => k_is)
    (case K_s_TextError_ArgumentError => k_is)
    (case K_s_LogError_ArgumentError => k_is)
    (case K_s_CommandError_ArgumentError => k_is)
    (case K_b_CheckError => k_is)
    (case K_d_CheckError => k_is)
    (case K_y_CheckError => k_is)
    (case K_s_ArgumentError_CheckError => k_is)
    (case K_s_PaperError_CheckError => k_is)
    (case K_s_TooMany_CheckError => k_is)
    (case K_s_CheckError_CheckError => k_is)
    (case K_s_TextError_CheckError => k_is)
    (case K_s_LogError_CheckError => k_is)
    (case K_s_CommandError_CheckError => k_is)
    (case K_b_CommandError => k_is)
    (case K_d_CommandError => k_is)
    (case K_y_CommandError => k_is)
    (case K_s_ArgumentError_CommandError => k_is)
    (case K_s_PaperError_CommandError => k_is)
    (case K_s_TooMany_CommandError => k_is)
    (case K_s_CheckError_CommandError => k_is)
    (case K_s_TextError_CommandError => k_is)
    (case K_s_LogError_CommandError => k_is)
    (case K_s_CommandError_CommandError => k_is)
    (case K_b_LogError => k_is)
    (case K_d_LogError => k_is)
    (case K_y_LogError => k_is)
    (case K_s_ArgumentError_LogError => k_is)
    (case K_s_PaperError_LogError => k_is)
    (case K_s_TooMany_LogError => k_is)
    (case K_s_CheckError_LogError => k_is)
    (case K_s_TextError_LogError => k_is)
    (case K_s_LogError_LogError => k_is)
    (case K_s_CommandError_LogError => k_is)
    (case K_b_PaperError => k_is)
    (case K_d_PaperError => k_is)
    (case K_y_PaperError => k_is)
    (case K_s_ArgumentError_PaperError => k_is)
    (case K_s_PaperError_PaperError => k_is)
    (case K_s_TooMany_PaperError => k_is)
    (case K_s_CheckError_PaperError => k_is)
    (case K_s_TextError_PaperError => k_is)
    (case K_s_LogError_PaperError => k_is)
    (case K_s_CommandError_PaperError => k_is)
    (case K_b_TextError => k_is)
    (case K_d_TextError => k_is)
    (case K_y_TextError => k_is)
    (case K_s_ArgumentError_TextError => k_is)
    (case K_s_PaperError_TextError => k_is)
    (case K_s_TooMany_TextError => k_is)
    (case K_s_CheckError_TextError => k_is)
    (case K_s_TextError_TextError => k_is)
    (case K_s_LogError_TextError => k_is)
    (case K_s_CommandError_TextError => k_is)
    (case K_b_TooMany => k_is)
    (case K_d_TooMany => k_is)
    (case K_y_TooMany => k_is)
    (case K_s_ArgumentError_TooMany => k_is)
    (case K_s_PaperError_TooMany => k_is)
    (case K_s_TooMany_TooMany => k_is)
    (case K_s_CheckError_TooMany => k_is)
    (case K_s_TextError_TooMany => k_is)
    (case K_s_LogError_TooMany => k_is)
    (case K_s_CommandError_TooMany => k_is)
    (case K_s_ArgumentError_ValueError => k_is)
    (case K_s_PaperError_ValueError => k_is)
    (case K_s_TooMany_ValueError => k_is)
    (case K_s_CheckError_ValueError => k_is)
    (case K_s_TextError_ValueError => k_is)
    (case K_s_LogError_ValueError => k_is)
    (case K_s_CommandError_ValueError => k_is)
    (case K_b_ClauseError => k_is)
    (case K_d_ClauseError => k_is)
    (case K_y_ClauseError => k_is)
    (case K_s_ArgumentError_ClauseError => k_is)
    (case K_s_PaperError_ClauseError => k_is)
    (case K_s_TooMany_ClauseError => k_is)
    (case K_s_CheckError_ClauseError => k_is)
    (case K_s_TextError_ClauseError => k_is)
    (case K_s_LogError_ClauseError => k_is)
    (case K_s_CommandError_ClauseError => k_is)
    (case K_e_PaperError_ArgumentError => decide)
    (case K_e_TooMany_ArgumentError => decide)
    (case K_e_CheckError_ArgumentError => decide)
    (case K_e_TextError_ArgumentError => decide)
    (case K_e_LogError_ArgumentError => decide)
    (case K_e_CommandError_ArgumentError => decide)
    (case K_e_ArgumentError_CheckError => decide)
    (case K_e_PaperError_CheckError => decide)
    (case K_e_TooMany_CheckError => decide)
    (case K_e_TextError_CheckError => decide)
    (case K_e_LogError_CheckError => decide)
    (case K_e_CommandError_CheckError => decide)
    (case K_e_ArgumentError_CommandError => decide)
    (case K_e_PaperError_CommandError => decide)
    (case K_e_TooMany_CommandError => decide)
    (case K_e_CheckError_CommandError => decide)
    (case K_e_TextError_CommandError => decide)
    (case K_e_LogError_CommandError => decide)
    (case K_e_ArgumentError_LogError => decide)
    (case K_e_PaperError_LogError => decide)
    (case K_e_TooMany_LogError => decide)
    (case K_e_CheckError_LogError => decide)
    (case K_e_TextError_LogError => decide)
    (case K_e_CommandError_LogError => decide)
    (case K_e_ArgumentError_PaperError => decide)
    (case K_e_TooMany_PaperError => decide)
    (case K_e_CheckError_PaperError => decide)
    (case K_e_TextError_PaperError => decide)
    (case K_e_LogError_PaperError => decide)
    (case K_e_CommandError_PaperError => decide)
    (case K_e_ArgumentError_TextError => decide)
    (case K_e_PaperError_TextError => decide)
    (case K_e_TooMany_TextError => decide)
    (case K_e_CheckError_TextError => decide)
    (case K_e_LogError_TextError => decide)
    (case K_e_CommandError_TextError => decide)
    (case K_e_ArgumentError_TooMany => decide)
    (case K_e_PaperError_TooMany => decide)
    (case K_e_CheckError_TooMany => decide)
    (case K_e_TextError_TooMany => decide)
    (case K_e_LogError_TooMany => decide)
    (case K_e_CommandError_TooMany => decide)
#print axioms PySem.Challenge.cw_answersinturn_k00_errors_and_limits_holds

