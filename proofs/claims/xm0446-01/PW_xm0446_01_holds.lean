import PyProof.Rows.All
import Wide.All
import OpenK.AllK
import Wide.FinOn
import Lean
import PySem.Challenge.RW_xm0446_01
open PySem PySem.W PyProof.Rows PySem.Calls
set_option Elab.async false
set_option maxRecDepth 100000
set_option maxHeartbeats 8000000
set_option linter.unusedVariables false
namespace Mine

/-- a part of the heap that stays as it is -/
abbrev PH := Addr → Option Obj
def Le (H H' : PH) : Prop := ∀ b o, H b = some o → H' b = some o
theorem Le.refl (H : PH) : Le H H := fun _ _ e => e
theorem Le.trans {H₁ H₂ H₃ : PH} (x : Le H₁ H₂) (y : Le H₂ H₃) : Le H₁ H₃ := fun b o e => y b o (x b o e)

inductive V where
  | none
  | bool (b : Bool)
  | int (i : Int)
  | list (xs : List V)
  | tuple (xs : List V)
  | raw (v : Value)

abbrev listO (items : List Value) (n : Nat) : Obj := { cls := .type "list", data := .seq items.toArray n }
abbrev tupO (items : List Value) (n : Nat) : Obj := { cls := .type "tuple", data := .seq items.toArray n }
def isL (H : PH) (a : Addr) (items : List Value) : Prop := ∃ n, H a = some (listO items n)
def isT (H : PH) (a : Addr) (items : List Value) : Prop := ∃ n, H a = some (tupO items n)
theorem isL.mono {H H' : PH} (h : Le H H') {a items} (x : isL H a items) : isL H' a items := let ⟨n, e⟩ := x; ⟨n, h _ _ e⟩
theorem isT.mono {H H' : PH} (h : Le H H') {a items} (x : isT H a items) : isT H' a items := let ⟨n, e⟩ := x; ⟨n, h _ _ e⟩

mutual
/-- the value bears the datum, over a part of the heap -/
def Den (H : PH) : V → Value → Prop
  | .none, v => v = .none
  | .bool b, v => v = .bool b
  | .int i, v => ∃ t, v = .int i t
  | .raw x, v => v = x
  | .list xs, v => ∃ a items, v = .ref a ∧ isL H a items ∧ DenL H xs items
  | .tuple xs, v => ∃ a items, v = .ref a ∧ isT H a items ∧ DenL H xs items
def DenL (H : PH) : List V → List Value → Prop
  | [], vs => vs = []
  | x :: xs, vs => ∃ v r, vs = v :: r ∧ Den H x v ∧ DenL H xs r
end

mutual
theorem Den.mono {H H' : PH} (h : Le H H') : ∀ (x : V) (v : Value), Den H x v → Den H' x v
  | .none, _, d => by simpa only [Den] using d
  | .bool _, _, d => by simpa only [Den] using d
  | .int _, _, d => by simpa only [Den] using d
  | .raw _, _, d => by simpa only [Den] using d
  | .list xs, v, d => by
    simp only [Den] at d ⊢
    obtain ⟨a, items, e, l, r⟩ := d
    exact ⟨a, items, e, l.mono h, DenL.mono h xs items r⟩
  | .tuple xs, v, d => by
    simp only [Den] at d ⊢
    obtain ⟨a, items, e, l, r⟩ := d
    exact ⟨a, items, e, l.mono h, DenL.mono h xs items r⟩
theorem DenL.mono {H H' : PH} (h : Le H H') : ∀ (xs : List V) (vs : List Value), DenL H xs vs → DenL H' xs vs
  | [], _, d => by simpa only [DenL] using d
  | x :: xs, vs, d => by
    simp only [DenL] at d ⊢
    obtain ⟨v, r, e, d1, d2⟩ := d
    exact ⟨v, r, e, Den.mono h x v d1, DenL.mono h xs r d2⟩
end

theorem DenL.nil_iff {H : PH} {vs : List Value} : DenL H [] vs ↔ vs = [] := by simp only [DenL]
theorem DenL.cons {H : PH} {x : V} {xs : List V} {v : Value} {vs : List Value} (a : Den H x v) (b : DenL H xs vs) : DenL H (x :: xs) (v :: vs) := by
  simp only [DenL]; exact ⟨v, vs, rfl, a, b⟩
theorem DenL.nil {H : PH} : DenL H [] [] := by simp only [DenL]
theorem DenL.inv {H : PH} {x : V} {xs : List V} {vs : List Value} (a : DenL H (x :: xs) vs) : ∃ v r, vs = v :: r ∧ Den H x v ∧ DenL H xs r := by simpa only [DenL] using a
theorem DenL.length {H : PH} : ∀ {xs : List V} {vs : List Value}, DenL H xs vs → vs.length = xs.length
  | [], _, d => by rw [DenL.nil_iff.mp d]; rfl
  | x :: xs, vs, d => by
    obtain ⟨v, r, rfl, _, d2⟩ := d.inv
    simp only [List.length_cons, d2.length]
theorem DenL.get {H : PH} : ∀ {xs : List V} {vs : List Value}, DenL H xs vs → ∀ (k : Nat) (x : V), xs[k]? = some x → ∃ v, vs[k]? = some v ∧ Den H x v
  | [], _, _, k, x, e => by simp at e
  | y :: xs, vs, d, k, x, e => by
    obtain ⟨v, r, rfl, d1, d2⟩ := d.inv
    cases k with
    | zero => simp only [List.getElem?_cons_zero, Option.some.injEq] at e ⊢; subst e; exact ⟨v, rfl, d1⟩
    | succ k => simp only [List.getElem?_cons_succ] at e ⊢; exact d2.get k x e
theorem DenL.append {H : PH} : ∀ {xs : List V} {vs : List Value} {ys : List V} {ws : List Value}, DenL H xs vs → DenL H ys ws → DenL H (xs ++ ys) (vs ++ ws)
  | [], _, _, _, d, d' => by rw [DenL.nil_iff.mp d]; exact d'
  | x :: xs, vs, _, _, d, d' => by
    obtain ⟨v, r, rfl, d1, d2⟩ := d.inv
    exact DenL.cons d1 (d2.append d')
theorem DenL.set {H : PH} : ∀ {xs : List V} {vs : List Value} (k : Nat) {x : V} {v : Value}, DenL H xs vs → Den H x v → DenL H (xs.set k x) (vs.set k v)
  | [], _, _, _, _, d, _ => by rw [DenL.nil_iff.mp d]; exact DenL.nil
  | y :: xs, vs, 0, x, v, d, dx => by
    obtain ⟨u, r, rfl, d1, d2⟩ := d.inv
    exact DenL.cons dx d2
  | y :: xs, vs, k + 1, x, v, d, dx => by
    obtain ⟨u, r, rfl, d1, d2⟩ := d.inv
    exact DenL.cons d1 (d2.set k dx)
theorem DenL.take {H : PH} : ∀ {xs : List V} {vs : List Value} (k : Nat), DenL H xs vs → DenL H (xs.take k) (vs.take k)
  | _, _, 0, _ => by simpa using DenL.nil
  | [], _, _ + 1, d => by rw [DenL.nil_iff.mp d]; exact DenL.nil
  | x :: xs, vs, k + 1, d => by
    obtain ⟨v, r, rfl, d1, d2⟩ := d.inv
    exact DenL.cons d1 (d2.take k)
theorem DenL.drop {H : PH} : ∀ {xs : List V} {vs : List Value} (k : Nat), DenL H xs vs → DenL H (xs.drop k) (vs.drop k)
  | _, _, 0, d => d
  | [], _, _ + 1, d => by rw [DenL.nil_iff.mp d]; exact DenL.nil
  | x :: xs, vs, k + 1, d => by
    obtain ⟨v, r, rfl, d1, d2⟩ := d.inv
    exact d2.drop k

/-- what a name or a place of the operand stack holds -/
inductive B where
  | fz (v : V)
  | own (xs : List V)
  | priv (o : Obj)

def isPriv : B → Bool
  | .fz _ => false
  | _ => true

def privs : List (Value × B) → List Addr
  | [] => []
  | (.ref a, .own _) :: r => a :: privs r
  | (.ref a, .priv _) :: r => a :: privs r
  | _ :: r => privs r
theorem privs_append : ∀ (l l' : List (Value × B)), privs (l ++ l') = privs l ++ privs l'
  | [], _ => rfl
  | (v, b) :: r, l' => by
    cases b <;> cases v <;> simp only [List.cons_append, privs, privs_append r l']
theorem privs_ref {a : Addr} {b : B} (hb : isPriv b = true) (r : List (Value × B)) : privs ((.ref a, b) :: r) = a :: privs r := by
  cases b with
  | fz v => cases hb
  | own xs => rfl
  | priv o => rfl
theorem privs_fz {v : Value} {x : V} (r : List (Value × B)) : privs ((v, .fz x) :: r) = privs r := by
  cases v <;> rfl

def DenB (H : PH) (h : PH) : Value × B → Prop
  | (v, .fz x) => Den H x v
  | (v, .own xs) => ∃ a items, v = .ref a ∧ isL h a items ∧ DenL H xs items
  | (v, .priv o) => ∃ a, v = .ref a ∧ h a = some o

theorem DenB.mono {H H' h h' : PH} (x : Le H H') (y : Le h h') : ∀ {p : Value × B}, DenB H h p → DenB H' h' p
  | (_, .fz _), d => Den.mono x _ _ d
  | (_, .own _), ⟨a, items, e, l, r⟩ => ⟨a, items, e, l.mono y, r.mono x⟩
  | (_, .priv _), ⟨a, e, l⟩ => ⟨a, e, y _ _ l⟩

/-- one frame: its environment, the state and the part of the heap at its start, the addresses where it keeps its names -/
structure Fx where
  env : Env
  A : Around
  s₀ : Shared
  H₀ : PH
  store : List Addr

structure Good (F : Fx) (H : PH) (h : Heap) (l : List (Value × B)) : Prop where
  den : ∀ p ∈ l, DenB H h.get? p
  nodup : (F.store ++ privs l).Nodup
  off : ∀ a ∈ F.store ++ privs l, H a = none ∧ F.s₀.heap.get? a = none ∧ (h.get? a).isSome = true

def Stored (env : Env) (h : Heap) (x : Str) (v : Value) : Prop :=
  (env.kindOf x = some .local ∧ ∃ m, h.Ns env.locals m ∧ m x = some v) ∨
  (env.kindOf x = some .cell ∧ ∃ c, env.cells.lookup x = some c ∧ h.IsCell c (some v))

structure Vars (F : Fx) (H : PH) (h : Heap) (τ : List (Value × B)) (σ : List (Str × Value × B)) : Prop where
  names : (σ.map (·.1)).Nodup
  stored : ∀ e ∈ σ, Stored F.env h e.1 e.2.1
  good : Good F H h (σ.map (·.2) ++ τ)

def bindsOf (σ : List (Str × Value × B)) : List (Str × B) := σ.map fun e => (e.1, e.2.2)

structure St (F : Fx) (ρ : List (Str × B)) (τ : List (Value × B)) (H : PH) (s : Shared) : Prop where
  le : Le H s.heap.get?
  keep : Le F.s₀.heap.get? s.heap.get?
  sub : Le F.H₀ H
  new : ∀ b, H b ≠ none → F.H₀ b ≠ none ∨ F.s₀.heap.get? b = none
  gens : s.gens = F.s₀.gens
  drawn : s.drawn = F.s₀.drawn
  os : s.os = F.s₀.os
  ns : ∃ m, s.heap.Ns F.env.locals m
  cells : ∀ x c, F.env.cells.lookup x = some c → ∃ v, s.heap.IsCell c v
  vars : ∃ σ, bindsOf σ = ρ ∧ Vars F H s.heap τ σ

theorem St.withVars {F : Fx} {ρ ρ' τ τ' H s} (st : St F ρ τ H s) (h : ∃ σ, bindsOf σ = ρ' ∧ Vars F H s.heap τ' σ) : St F ρ' τ' H s := { st with vars := h }

theorem Ns_mono {h h' : Heap} {a m} (x : h.Ns a m) (k : Le h.get? h'.get?) : h'.Ns a m := x.keeps k
theorem Stored.mono {env : Env} {h h' : Heap} {x v} (k : Le h.get? h'.get?) (s : Stored env h x v) : Stored env h' x v := by
  rcases s with ⟨a, m, b, c⟩ | ⟨a, c, b, d⟩
  · exact .inl ⟨a, m, b.keeps k, c⟩
  · exact .inr ⟨a, c, b, d.keeps k⟩
theorem Good.mono {F : Fx} {H H' : PH} {h h' : Heap} {l} (k : Le h.get? h'.get?) (hH : Le H H') (off : ∀ a ∈ F.store ++ privs l, H' a = none) (g : Good F H h l) : Good F H' h' l :=
  ⟨fun p hp => (g.den p hp).mono hH k, g.nodup, fun a ha => ⟨off a ha, (g.off a ha).2.1, by
    obtain ⟨_, _, e⟩ := g.off a ha
    obtain ⟨o, ho⟩ := Option.isSome_iff_exists.mp e
    rw [k _ _ ho]; rfl⟩⟩

/-- nothing that stood has changed -/
theorem St.ext {F : Fx} {ρ τ H s s'} (x : St F ρ τ H s) (k : Le s.heap.get? s'.heap.get?) (e1 : s'.gens = s.gens := by rfl) (e2 : s'.drawn = s.drawn := by rfl) (e3 : s'.os = s.os := by rfl) : St F ρ τ H s' where
  le := x.le.trans k
  keep := x.keep.trans k
  sub := x.sub
  new := x.new
  gens := e1.trans x.gens
  drawn := e2.trans x.drawn
  os := e3.trans x.os
  ns := let ⟨m, h⟩ := x.ns; ⟨m, h.keeps k⟩
  cells := fun y c e => let ⟨v, h⟩ := x.cells y c e; ⟨v, h.keeps k⟩
  vars := by
    obtain ⟨σ, e, vs⟩ := x.vars
    exact ⟨σ, e, vs.names, fun p hp => (vs.stored p hp).mono k, vs.good.mono k (Le.refl H) fun a ha => (vs.good.off a ha).1⟩

theorem St.toks {F : Fx} {ρ τ H} {s : Shared} (x : St F ρ τ H s) (t : Nat) : St F ρ τ H { s with toks := t } := x.ext (Le.refl _)

theorem Good.sub {F : Fx} {H h} {l l' : List (Value × B)} (g : Good F H h l) (s : l'.Sublist l) (hs : (privs l').Sublist (privs l)) : Good F H h l' :=
  ⟨fun p hp => g.den p (s.subset hp), g.nodup.sublist (List.Sublist.append (List.Sublist.refl _) hs), fun a ha => g.off a ((List.Sublist.append (List.Sublist.refl F.store) hs).subset ha)⟩
theorem privs_sub : ∀ {l' l : List (Value × B)}, l'.Sublist l → (privs l').Sublist (privs l)
  | _, _, .slnil => List.Sublist.refl _
  | _, _, .cons (v, b) s => by
    have ih := privs_sub s
    cases b <;> cases v <;> first | exact ih | exact ih.cons _
  | _, _, .cons_cons (v, b) s => by
    have ih := privs_sub s
    cases b <;> cases v <;> first | exact ih | exact ih.cons_cons _
theorem Good.less {F : Fx} {H h} {l l' : List (Value × B)} (g : Good F H h l) (s : l'.Sublist l) : Good F H h l' := g.sub s (privs_sub s)

theorem St.pop {F : Fx} {ρ τ H s p} (x : St F ρ (p :: τ) H s) : St F ρ τ H s := by
  refine x.withVars ?_
  obtain ⟨σ, e, vs⟩ := x.vars
  exact ⟨σ, e, vs.names, vs.stored, vs.good.less (List.Sublist.append (List.Sublist.refl _) (List.sublist_cons_self p τ))⟩

theorem privs_mid_fz (l l' : List (Value × B)) (v : Value) (x : V) : privs (l ++ (v, .fz x) :: l') = privs (l ++ l') := by
  rw [privs_append, privs_append, privs_fz]

theorem Good.addFz {F : Fx} {H h} {l l' : List (Value × B)} {v : Value} {x : V} (g : Good F H h (l ++ l')) (d : Den H x v) : Good F H h (l ++ (v, .fz x) :: l') := by
  refine ⟨fun p hp => ?_, ?_, ?_⟩
  · rcases List.mem_append.mp hp with q | q
    · exact g.den p (List.mem_append_left _ q)
    · rcases List.mem_cons.mp q with rfl | q
      · exact d
      · exact g.den p (List.mem_append_right _ q)
  · rw [privs_mid_fz]; exact g.nodup
  · rw [privs_mid_fz]; exact g.off
theorem St.push {F : Fx} {ρ τ H s v x} (st : St F ρ τ H s) (d : Den H x v) : St F ρ ((v, .fz x) :: τ) H s := by
  refine st.withVars ?_
  obtain ⟨σ, e, vs⟩ := st.vars
  exact ⟨σ, e, vs.names, vs.stored, vs.good.addFz d⟩

/-- a name's value -/
theorem St.look {F : Fx} {ρ τ H s x b} (st : St F ρ τ H s) (h : (x, b) ∈ ρ) : ∃ v, Stored F.env s.heap x v ∧ DenB H s.heap.get? (v, b) := by
  obtain ⟨σ, e, vs⟩ := st.vars
  subst e
  obtain ⟨⟨y, v, c⟩, hm, he⟩ := List.mem_map.mp h
  cases he
  exact ⟨v, vs.stored _ hm, vs.good.den _ (List.mem_append_left _ (List.mem_map.mpr ⟨_, hm, rfl⟩))⟩
theorem St.topDen {F : Fx} {ρ τ H s p} (st : St F ρ (p :: τ) H s) : DenB H s.heap.get? p := by
  obtain ⟨σ, e, vs⟩ := st.vars
  exact vs.good.den p (List.mem_append_right _ (.head _))
theorem St.memDen {F : Fx} {ρ τ H s p} (st : St F ρ τ H s) (h : p ∈ τ) : DenB H s.heap.get? p := by
  obtain ⟨σ, e, vs⟩ := st.vars
  exact vs.good.den p (List.mem_append_right _ h)

/-- the frozen part grows by a new object -/
def addH (H : PH) (a : Addr) (o : Obj) : PH := fun b => if b = a then some o else H b
theorem addH_le {H : PH} {a : Addr} (o : Obj) (h : H a = none) : Le H (addH H a o) := fun b o' e => by
  unfold addH
  split
  · rename_i q; subst q; rw [h] at e; cases e
  · exact e
theorem addH_self (H : PH) (a : Addr) (o : Obj) : addH H a o a = some o := if_pos rfl
theorem addH_ne {H : PH} {a b : Addr} {o : Obj} (h : b ≠ a) : addH H a o b = H b := if_neg h

theorem get_size_none (h : Heap) : h.get? h.objs.size = none := Heap.get?_none_of_le (Nat.le_refl _)
theorem not_size {h : Heap} {a : Addr} (e : (h.get? a).isSome = true) : a ≠ h.objs.size := by
  intro q; subst q; rw [get_size_none] at e; cases e

theorem push_le (h : Heap) (o : Obj) : Le h.get? (h.push o).get? := fun _ _ e => Heap.get?_push_of_some _ e

/-- a new object that stays as it is -/
theorem St.allocFz {F : Fx} {ρ τ H s} (st : St F ρ τ H s) (o : Obj) (hf : o.isFreed = false) (x : V) (d : Den (addH H s.heap.objs.size o) x (.ref s.heap.objs.size)) :
    St F ρ ((.ref s.heap.objs.size, .fz x) :: τ) (addH H s.heap.objs.size o) { s with heap := s.heap.push o } := by
  have hn : H s.heap.objs.size = none := by
    cases q : H s.heap.objs.size with
    | none => rfl
    | some o' => have := st.le _ _ q; rw [get_size_none] at this; cases this
  have h0 : F.s₀.heap.get? s.heap.objs.size = none := by
    cases q : F.s₀.heap.get? s.heap.objs.size with
    | none => rfl
    | some o' => have := st.keep _ _ q; rw [get_size_none] at this; cases this
  have e1 : St F ρ τ H { s with heap := s.heap.push o } := st.ext (push_le _ _)
  have hl := addH_le (H := H) o hn
  refine St.push ?_ d
  exact {
    le := fun b o' e => by
      unfold addH at e
      split at e
      · rename_i q; subst q; cases e; exact Heap.get?_push_size _ hf
      · exact e1.le _ _ e
    keep := e1.keep
    sub := e1.sub.trans hl
    new := fun b hb => by
      by_cases q : b = s.heap.objs.size
      · subst q; exact .inr h0
      · rw [addH_ne q] at hb; exact e1.new b hb
    gens := e1.gens
    drawn := e1.drawn
    os := e1.os
    ns := e1.ns
    cells := e1.cells
    vars := by
      obtain ⟨σ, e, vs⟩ := st.vars
      refine ⟨σ, e, vs.names, fun p hp => (vs.stored p hp).mono (push_le _ _), vs.good.mono (push_le _ _) hl fun a ha => ?_⟩
      rw [addH_ne (not_size (vs.good.off a ha).2.2)]
      exact (vs.good.off a ha).1 }

theorem Good.addPriv {F : Fx} {H} {h : Heap} {l l' : List (Value × B)} {a : Addr} {b : B} (g : Good F H h (l ++ l')) (hb : isPriv b = true) (d : DenB H h.get? (.ref a, b))
    (hn : a ∉ F.store ++ privs (l ++ l')) (h1 : H a = none) (h2 : F.s₀.heap.get? a = none) (h3 : (h.get? a).isSome = true) : Good F H h (l ++ (.ref a, b) :: l') := by
  have e : privs (l ++ (.ref a, b) :: l') = privs l ++ a :: privs l' := by rw [privs_append, privs_ref hb]
  have pm : (F.store ++ privs (l ++ (.ref a, b) :: l')).Perm (a :: (F.store ++ privs (l ++ l'))) := by
    rw [e, privs_append, ← List.append_assoc, ← List.append_assoc]
    exact List.perm_middle
  refine ⟨fun p hp => ?_, ?_, fun c hc => ?_⟩
  · rcases List.mem_append.mp hp with q | q
    · exact g.den p (List.mem_append_left _ q)
    · rcases List.mem_cons.mp q with rfl | q
      · exact d
      · exact g.den p (List.mem_append_right _ q)
  · exact pm.nodup_iff.mpr (List.nodup_cons.mpr ⟨hn, g.nodup⟩)
  · rcases List.mem_cons.mp (pm.mem_iff.mp hc) with rfl | q
    · exact ⟨h1, h2, h3⟩
    · exact g.off c q

/-- a new object of the frame's own -/
theorem St.allocPriv {F : Fx} {ρ τ H s} (st : St F ρ τ H s) (o : Obj) (hf : o.isFreed = false) (b : B) (hb : isPriv b = true)
    (d : DenB H (s.heap.push o).get? (.ref s.heap.objs.size, b)) :
    St F ρ ((.ref s.heap.objs.size, b) :: τ) H { s with heap := s.heap.push o } := by
  have hn : H s.heap.objs.size = none := by
    cases q : H s.heap.objs.size with
    | none => rfl
    | some o' => have := st.le _ _ q; rw [get_size_none] at this; cases this
  have h0 : F.s₀.heap.get? s.heap.objs.size = none := by
    cases q : F.s₀.heap.get? s.heap.objs.size with
    | none => rfl
    | some o' => have := st.keep _ _ q; rw [get_size_none] at this; cases this
  have e1 : St F ρ τ H { s with heap := s.heap.push o } := st.ext (push_le _ _)
  refine e1.withVars ?_
  obtain ⟨σ, e, vs⟩ := st.vars
  refine ⟨σ, e, vs.names, fun p hp => (vs.stored p hp).mono (push_le _ _), ?_⟩
  have g' := vs.good.mono (push_le s.heap o) (Le.refl H) fun a ha => (vs.good.off a ha).1
  refine g'.addPriv hb d (fun ha => ?_) hn h0 (by rw [Heap.get?_push_size _ hf]; rfl)
  exact not_size (vs.good.off _ ha).2.2 rfl

theorem privs_perm {l l' : List (Value × B)} (h : l.Perm l') : (privs l).Perm (privs l') := by
  induction h with
  | nil => exact .refl _
  | cons x _ ih =>
    obtain ⟨v, b⟩ := x
    cases b <;> cases v <;> first | exact ih | exact ih.cons _
  | swap x y l =>
    obtain ⟨v, b⟩ := x
    obtain ⟨u, c⟩ := y
    cases b <;> cases v <;> cases c <;> cases u <;> first | exact .refl _ | exact .swap _ _ _
  | trans _ _ ih1 ih2 => exact ih1.trans ih2

theorem Good.perm {F : Fx} {H h} {l l' : List (Value × B)} (g : Good F H h l) (p : l.Perm l') : Good F H h l' := by
  have pp : (F.store ++ privs l).Perm (F.store ++ privs l') := (privs_perm p).append_left _
  exact ⟨fun q hq => g.den q (p.mem_iff.mpr hq), pp.nodup_iff.mp g.nodup, fun a ha => g.off a (pp.mem_iff.mpr ha)⟩

theorem mem_privs {l : List (Value × B)} {a : Addr} {b : B} (hb : isPriv b = true) (h : (Value.ref a, b) ∈ l) : a ∈ privs l := by
  induction l with
  | nil => cases h
  | cons x r ih =>
    rcases List.mem_cons.mp h with e | q
    · rw [← e, privs_ref hb]; exact .head _
    · exact (privs_sub (List.sublist_cons_self x r)).subset (ih q)

structure Fx.Ok (F : Fx) : Prop where
  kind : F.env.scope.kind = .function
  locIn : F.env.locals ∈ F.store
  cellIn : ∀ x c, F.env.cells.lookup x = some c → c ∈ F.store ∨ (F.s₀.heap.get? c).isSome = true
  cellInj : ∀ x y c, F.env.cells.lookup x = some c → F.env.cells.lookup y = some c → x = y
  cellNe : ∀ x c, F.env.cells.lookup x = some c → c ≠ F.env.locals

/-- everything but one address stands -/
def LeBut (a : Addr) (H H' : PH) : Prop := ∀ b o, b ≠ a → H b = some o → H' b = some o
theorem sameBut_le {a h h'} (x : Heap.SameBut a h h') : LeBut a h.get? h'.get? := fun b _ n e => (x.2 b n).trans e
theorem update_le (h : Heap) (a : Addr) (f : Obj → Obj) : LeBut a h.get? (h.update a f).get? := sameBut_le (Heap.SameBut.update h a f)

theorem DenB.but {H h h' : PH} {a : Addr} (k : LeBut a h h') {p : Value × B} (d : DenB H h p) (n : ∀ b, isPriv p.2 = true → p.1 = .ref b → b ≠ a) : DenB H h' p := by
  obtain ⟨v, b⟩ := p
  cases b with
  | fz x => exact d
  | own xs =>
    obtain ⟨c, items, e, ⟨m, l⟩, r⟩ := d
    exact ⟨c, items, e, ⟨m, k _ _ (n c rfl e) l⟩, r⟩
  | priv o =>
    obtain ⟨c, e, l⟩ := d
    exact ⟨c, e, k _ _ (n c rfl e) l⟩

theorem Good.upd {F : Fx} {H} {h h' : Heap} {l l' : List (Value × B)} {a : Addr} {b b' : B} (g : Good F H h (l ++ (.ref a, b) :: l')) (hb : isPriv b = true) (hb' : isPriv b' = true)
    (k : LeBut a h.get? h'.get?) (d : DenB H h'.get? (.ref a, b')) (i : (h'.get? a).isSome = true) : Good F H h' (l ++ (.ref a, b') :: l') := by
  have g' := g.perm (List.perm_middle (l₁ := l) (a := (Value.ref a, b)))
  have hn := g'.nodup
  rw [privs_ref hb] at hn
  have pm : (F.store ++ a :: privs (l ++ l')).Perm (a :: (F.store ++ privs (l ++ l'))) := List.perm_middle
  have hn' := List.nodup_cons.mp (pm.nodup_iff.mp hn)
  have key : ∀ c, c ∈ F.store ++ privs (l ++ l') → c ≠ a := fun c hc q => hn'.1 (q ▸ hc)
  refine Good.perm (l := (.ref a, b') :: (l ++ l')) ⟨fun p hp => ?_, ?_, fun c hc => ?_⟩ List.perm_middle.symm
  · rcases List.mem_cons.mp hp with rfl | hp
    · exact d
    · refine (g'.den p (.tail _ hp)).but k fun c hc e => key c (List.mem_append_right _ (mem_privs (b := p.2) hc ?_))
      rw [← e]; exact hp
  · rw [privs_ref hb']; exact hn
  · rw [privs_ref hb'] at hc
    have off := g'.off
    rw [privs_ref hb] at off
    have o1 := off c hc
    by_cases q : c = a
    · subst q; exact ⟨o1.1, o1.2.1, i⟩
    · obtain ⟨o, ho⟩ := Option.isSome_iff_exists.mp o1.2.2
      exact ⟨o1.1, o1.2.1, by rw [k _ _ q ho]; rfl⟩

theorem Stored.but {env : Env} {h h' : Heap} {a : Addr} {x v} (k : LeBut a h.get? h'.get?) (hL : env.locals ≠ a) (hc : ∀ y c, env.cells.lookup y = some c → c ≠ a) (s : Stored env h x v) : Stored env h' x v := by
  rcases s with ⟨e, m, ⟨o, es, ep, ho, r⟩, q⟩ | ⟨e, c, hl, ⟨o, ho, r⟩⟩
  · exact .inl ⟨e, m, ⟨o, es, ep, k _ _ hL ho, r⟩, q⟩
  · exact .inr ⟨e, c, hl, o, k _ _ (hc _ _ hl) ho, r⟩

/-- an address of the frame's own: no name is kept there, nothing frozen lies there -/
theorem St.but {F : Fx} (ok : F.Ok) {ρ τ H} {s s' : Shared} {a : Addr} (st : St F ρ τ H s) (hs : a ∉ F.store) (h1 : H a = none) (h2 : F.s₀.heap.get? a = none) (k : LeBut a s.heap.get? s'.heap.get?)
    {ρ' τ'} (hv : ∀ σ, bindsOf σ = ρ → Vars F H s.heap τ σ → (∀ x v, Stored F.env s.heap x v → Stored F.env s'.heap x v) → ∃ σ', bindsOf σ' = ρ' ∧ Vars F H s'.heap τ' σ')
    (e1 : s'.gens = s.gens := by rfl) (e2 : s'.drawn = s.drawn := by rfl) (e3 : s'.os = s.os := by rfl) : St F ρ' τ' H s' := by
  have hL : F.env.locals ≠ a := fun q => hs (q ▸ ok.locIn)
  have hc : ∀ y c, F.env.cells.lookup y = some c → c ≠ a := fun y c e q => by
    subst q
    rcases ok.cellIn _ _ e with i | i
    · exact hs i
    · rw [h2] at i; cases i
  exact {
    le := fun b o e => k b o (fun q => by subst q; rw [h1] at e; cases e) (st.le _ _ e)
    keep := fun b o e => k b o (fun q => by subst q; rw [h2] at e; cases e) (st.keep _ _ e)
    sub := st.sub
    new := st.new
    gens := e1.trans st.gens
    drawn := e2.trans st.drawn
    os := e3.trans st.os
    ns := let ⟨m, o, es, ep, ho, r⟩ := st.ns; ⟨m, o, es, ep, k _ _ hL ho, r⟩
    cells := fun y c e => let ⟨v, o, ho, r⟩ := st.cells y c e; ⟨v, o, k _ _ (hc y c e) ho, r⟩
    vars := let ⟨σ, e, vs⟩ := st.vars; hv σ e vs fun x v q => q.but k hL hc }

theorem St.privAt {F : Fx} {ρ τ H s a b} (st : St F ρ τ H s) (hb : isPriv b = true) (h : (Value.ref a, b) ∈ τ) : a ∉ F.store ∧ H a = none ∧ F.s₀.heap.get? a = none := by
  obtain ⟨σ, e, vs⟩ := st.vars
  have ha : a ∈ privs (σ.map (·.2) ++ τ) := mem_privs hb (List.mem_append_right _ h)
  have o := vs.good.off a (List.mem_append_right _ ha)
  exact ⟨fun q => (List.nodup_append.mp vs.good.nodup).2.2 a q a ha rfl, o.1, o.2.1⟩

/-- the private object at the stack's top changes -/
theorem St.updTop {F : Fx} (ok : F.Ok) {ρ τ H} {s s' : Shared} {a : Addr} {b b' : B} (st : St F ρ ((.ref a, b) :: τ) H s) (hb : isPriv b = true) (hb' : isPriv b' = true)
    (k : LeBut a s.heap.get? s'.heap.get?) (d : DenB H s'.heap.get? (.ref a, b')) (i : (s'.heap.get? a).isSome = true)
    (e1 : s'.gens = s.gens := by rfl) (e2 : s'.drawn = s.drawn := by rfl) (e3 : s'.os = s.os := by rfl) : St F ρ ((.ref a, b') :: τ) H s' := by
  obtain ⟨p1, p2, p3⟩ := st.privAt hb (.head _)
  exact st.but ok p1 p2 p3 k (fun σ e vs mo => ⟨σ, e, vs.names, fun q hq => mo _ _ (vs.stored q hq), vs.good.upd hb hb' k d i⟩) e1 e2 e3

inductive Put (x : Str) (b : B) : List (Str × B) → List (Str × B) → Prop
  | here {c r} : Put x b ((x, c) :: r) ((x, b) :: r)
  | skip {e r r'} : Put x b r r' → Put x b (e :: r) (e :: r')
inductive NewIn (x : Str) : List (Str × B) → Prop
  | nil : NewIn x []
  | cons {y c r} : x ≠ y → NewIn x r → NewIn x ((y, c) :: r)
theorem NewIn.not_mem {x : Str} : ∀ {σ : List (Str × Value × B)}, NewIn x (bindsOf σ) → x ∉ σ.map (·.1)
  | [], _ => List.not_mem_nil
  | (y, v, b) :: σ, h => by
    cases h with
    | cons n r =>
      intro q
      rcases List.mem_cons.mp q with e | q
      · exact n e
      · exact NewIn.not_mem (σ := σ) r q

theorem Put.split {x : Str} {b : B} : ∀ {σ : List (Str × Value × B)} {ρ' : List (Str × B)}, Put x b (bindsOf σ) ρ' → ∃ σ1 u c σ2, σ = σ1 ++ (x, u, c) :: σ2 ∧ ∀ v, bindsOf (σ1 ++ (x, v, b) :: σ2) = ρ' := by
  intro σ
  induction σ with
  | nil => intro ρ' h; cases h
  | cons e σ ih =>
    obtain ⟨y, v, c⟩ := e
    intro ρ' h
    cases h with
    | here => exact ⟨[], v, c, σ, rfl, fun v => rfl⟩
    | skip h =>
      obtain ⟨σ1, u, c', σ2, e1, e2⟩ := ih h
      exact ⟨(y, v, c) :: σ1, u, c', σ2, by rw [e1]; rfl, fun w => by rw [← e2 w]; rfl⟩

theorem names_put {σ1 σ2 : List (Str × Value × B)} {x u c v b} (h : ((σ1 ++ (x, u, c) :: σ2).map (·.1)).Nodup) : ((σ1 ++ (x, v, b) :: σ2).map (·.1)).Nodup := by
  simpa only [List.map_append, List.map_cons] using h
theorem names_ne {σ1 σ2 : List (Str × Value × B)} {x : Str} {p : Value × B} (h : ((σ1 ++ (x, p) :: σ2).map (·.1)).Nodup) : ∀ e ∈ σ1 ++ σ2, e.1 ≠ x := by
  intro e he q
  simp only [List.map_append, List.map_cons] at h
  have h' := (List.perm_middle (l₁ := σ1.map (·.1)) (a := x)).nodup_iff.mp h
  refine (List.nodup_cons.mp h').1 ?_
  rw [← List.map_append]
  exact List.mem_map.mpr ⟨e, he, q⟩

/-- how a name is kept: among the frame's locals, or in a cell of the frame's own -/
def Keeps (F : Fx) (x : Str) : Prop := F.env.kindOf x = some .local ∨ (F.env.kindOf x = some .cell ∧ ∃ c, F.env.cells.lookup x = some c ∧ c ∈ F.store)

theorem St.atStore {F : Fx} (ok : F.Ok) {ρ τ H} {s s' : Shared} {a : Addr} (st : St F ρ τ H s) (hs : a ∈ F.store) (k : LeBut a s.heap.get? s'.heap.get?) (i : (s'.heap.get? a).isSome = true)
    (hns : ∃ m, s'.heap.Ns F.env.locals m) (hcs : ∀ x c, F.env.cells.lookup x = some c → ∃ v, s'.heap.IsCell c v)
    {ρ' τ'} (hv : ∀ σ, bindsOf σ = ρ → Vars F H s.heap τ σ → Good F H s'.heap (σ.map (·.2) ++ τ) → ∃ σ', bindsOf σ' = ρ' ∧ Vars F H s'.heap τ' σ')
    (e1 : s'.gens = s.gens := by rfl) (e2 : s'.drawn = s.drawn := by rfl) (e3 : s'.os = s.os := by rfl) : St F ρ' τ' H s' := by
  obtain ⟨σ, e, vs⟩ := st.vars
  have o := vs.good.off a (List.mem_append_left _ hs)
  refine {
    le := fun b o' e => k b o' (fun q => by subst q; rw [o.1] at e; cases e) (st.le _ _ e)
    keep := fun b o' e => k b o' (fun q => by subst q; rw [o.2.1] at e; cases e) (st.keep _ _ e)
    sub := st.sub
    new := st.new
    gens := e1.trans st.gens
    drawn := e2.trans st.drawn
    os := e3.trans st.os
    ns := hns
    cells := hcs
    vars := hv σ e vs ⟨fun p hp => (vs.good.den p hp).but k fun b hb e => ?_, vs.good.nodup, fun b hb => ?_⟩ }
  · intro q
    subst q
    exact (List.nodup_append.mp vs.good.nodup).2.2 b hs b (mem_privs (b := p.2) hb (by rw [← e]; exact hp)) rfl
  · have o' := vs.good.off b hb
    by_cases q : b = a
    · subst q; exact ⟨o'.1, o'.2.1, i⟩
    · obtain ⟨ob, ho⟩ := Option.isSome_iff_exists.mp o'.2.2
      exact ⟨o'.1, o'.2.1, by rw [k _ _ q ho]; rfl⟩

theorem isCell_but {h h' : Heap} {a c : Addr} {v} (k : LeBut a h.get? h'.get?) (n : c ≠ a) (x : h.IsCell c v) : h'.IsCell c v := let ⟨o, ho, r⟩ := x; ⟨o, k _ _ n ho, r⟩
theorem ns_but {h h' : Heap} {a c : Addr} {m} (k : LeBut a h.get? h'.get?) (n : c ≠ a) (x : h.Ns c m) : h'.Ns c m := let ⟨o, es, ep, ho, r⟩ := x; ⟨o, es, ep, k _ _ n ho, r⟩

section
variable {M : Model} {A : Around} {E : Value → Shared → Prop}
/-- a name is stored: the heap behind it -/
theorem storeRaw {F : Fx} (ok : F.Ok) {ρ τ H s x v} {Q : Unit → Shared → Prop} (st : St F ρ τ H s) (kx : Keeps F x)
    (h : ∀ (s' : Shared) (a : Addr), a ∈ F.store → LeBut a s.heap.get? s'.heap.get? → (s'.heap.get? a).isSome = true → (∃ m, s'.heap.Ns F.env.locals m) → (∀ x c, F.env.cells.lookup x = some c → ∃ v, s'.heap.IsCell c v) →
      Stored F.env s'.heap x v → (∀ y u, y ≠ x → Stored F.env s.heap y u → Stored F.env s'.heap y u) → s'.gens = s.gens → s'.drawn = s.drawn → s'.os = s.os → Q () s') :
    wpAny M A (storeName F.env x v) Q E s := by
  rcases kx with kl | ⟨kc, c, hl, hc⟩
  · obtain ⟨m, hm⟩ := st.ns
    refine wpAny_storeName_local kl hm (fun h' hn hs => ?_) (by rw [ok.kind]; rfl)
    have k := sameBut_le hs
    have hcs : ∀ x c, F.env.cells.lookup x = some c → ∃ v, h'.IsCell c v := fun y c e => let ⟨v, i⟩ := st.cells y c e; ⟨v, isCell_but k (ok.cellNe y c e) i⟩
    refine h _ F.env.locals ok.locIn k ?_ ⟨_, hn⟩ hcs (.inl ⟨kl, _, hn, if_pos rfl⟩) (fun y u n q => ?_) rfl rfl rfl
    · obtain ⟨o, es, ep, ho, _⟩ := hn
      show (h'.get? F.env.locals).isSome = true
      rw [ho]; rfl
    · rcases q with ⟨ky, m', hm', e⟩ | ⟨ky, c, hl, i⟩
      · refine .inl ⟨ky, _, hn, ?_⟩
        rw [if_neg n]
        obtain ⟨o, es, ep, ho, hd, _, hf⟩ := hm
        obtain ⟨o', es', ep', ho', hd', _, hf'⟩ := hm'
        rw [ho] at ho'; cases ho'
        rw [hd] at hd'; cases hd'
        rw [← hf y, hf' y]; exact e
      · exact .inr ⟨ky, c, hl, isCell_but k (ok.cellNe y c hl) i⟩
  · obtain ⟨v₀, i⟩ := st.cells x c hl
    refine wpAny_storeName_cell ok.kind kc hl i fun h' hi hs => ?_
    have k := sameBut_le hs
    refine h _ c hc k ?_ ?_ (fun y c' e => ?_) (.inr ⟨kc, c, hl, hi⟩) (fun y u n q => ?_) rfl rfl rfl
    · obtain ⟨o, ho, _⟩ := hi
      show (h'.get? c).isSome = true
      rw [ho]; rfl
    · obtain ⟨m, hm⟩ := st.ns
      exact ⟨m, ns_but k (Ne.symm (ok.cellNe x c hl)) hm⟩
    · by_cases q : c' = c
      · subst q; exact ⟨_, hi⟩
      · obtain ⟨v, j⟩ := st.cells y c' e
        exact ⟨v, isCell_but k q j⟩
    · rcases q with ⟨ky, m', hm', e⟩ | ⟨ky, c', hl', j⟩
      · exact .inl ⟨ky, m', ns_but k (Ne.symm (ok.cellNe x c hl)) hm', e⟩
      · refine .inr ⟨ky, c', hl', isCell_but k (fun q => n ?_) j⟩
        subst q; exact ok.cellInj _ _ _ hl' hl

theorem store_put {F : Fx} (ok : F.Ok) {ρ ρ' τ H s x v b} {Q : Unit → Shared → Prop} (st : St F ρ ((v, b) :: τ) H s) (kx : Keeps F x) (p : Put x b ρ ρ') (h : ∀ s', St F ρ' τ H s' → Q () s') :
    wpAny M A (storeName F.env x v) Q E s := by
  refine storeRaw ok st kx fun s' a ha k i hns hcs hx hy g1 g2 g3 => h s' (st.atStore ok ha k i hns hcs (fun σ e vs g => ?_) g1 g2 g3)
  subst e
  obtain ⟨σ1, u, c, σ2, rfl, e2⟩ := p.split
  refine ⟨σ1 ++ (x, v, b) :: σ2, e2 v, names_put vs.names, fun q hq => ?_, ?_⟩
  · rcases List.mem_append.mp hq with q1 | q1
    · exact hy _ _ (names_ne vs.names q (List.mem_append_left _ q1)) (vs.stored q (List.mem_append_left _ q1))
    · rcases List.mem_cons.mp q1 with rfl | q1
      · exact hx
      · exact hy _ _ (names_ne vs.names q (List.mem_append_right _ q1)) (vs.stored q (List.mem_append_right _ (.tail _ q1)))
  · simp only [List.map_append, List.map_cons, List.append_assoc, List.cons_append] at g ⊢
    have g1 := g.less (l' := σ1.map (·.2) ++ (σ2.map (·.2) ++ (v, b) :: τ)) (List.Sublist.append (List.Sublist.refl _) (List.sublist_cons_self _ _))
    refine g1.perm (List.Perm.append_left _ ?_)
    exact List.perm_middle

theorem store_new {F : Fx} (ok : F.Ok) {ρ τ H s x v b} {Q : Unit → Shared → Prop} (st : St F ρ ((v, b) :: τ) H s) (kx : Keeps F x) (p : NewIn x ρ) (h : ∀ s', St F ((x, b) :: ρ) τ H s' → Q () s') :
    wpAny M A (storeName F.env x v) Q E s := by
  refine storeRaw ok st kx fun s' a ha k i hns hcs hx hy g1 g2 g3 => h s' (st.atStore ok ha k i hns hcs (fun σ e vs g => ?_) g1 g2 g3)
  subst e
  have hn := p.not_mem
  refine ⟨(x, v, b) :: σ, rfl, List.nodup_cons.mpr ⟨hn, vs.names⟩, fun q hq => ?_, ?_⟩
  · rcases List.mem_cons.mp hq with rfl | q1
    · exact hx
    · exact hy _ _ (fun e => hn (e ▸ List.mem_map.mpr ⟨q, q1, rfl⟩)) (vs.stored q q1)
  · simp only [List.map_cons, List.cons_append] at g ⊢
    exact g.perm List.perm_middle
end

theorem Good.freeze {F : Fx} {H} {h : Heap} {l l' : List (Value × B)} {a : Addr} {xs : List V} {items : List Value} {n : Nat} (g : Good F H h (l ++ (.ref a, .own xs) :: l'))
    (ha : h.get? a = some (listO items n)) (d : DenL H xs items) : H a = none ∧ F.s₀.heap.get? a = none ∧ a ∉ F.store ∧ Good F (addH H a (listO items n)) h (l ++ (.ref a, .fz (.list xs)) :: l') := by
  have g' := g.perm (List.perm_middle (l₁ := l) (a := (Value.ref a, B.own xs)))
  have hn := g'.nodup
  rw [privs_ref rfl] at hn
  have pm : (F.store ++ a :: privs (l ++ l')).Perm (a :: (F.store ++ privs (l ++ l'))) := List.perm_middle
  have hn' := List.nodup_cons.mp (pm.nodup_iff.mp hn)
  have off := g'.off
  rw [privs_ref rfl] at off
  have o1 := off a (pm.mem_iff.mpr (.head _))
  have hl : Le H (addH H a (listO items n)) := addH_le _ o1.1
  refine ⟨o1.1, o1.2.1, fun q => hn'.1 (List.mem_append_left _ q), ?_⟩
  refine Good.perm (l := (.ref a, .fz (.list xs)) :: (l ++ l')) ⟨fun p hp => ?_, ?_, fun c hc => ?_⟩ List.perm_middle.symm
  · rcases List.mem_cons.mp hp with rfl | hp
    · show Den _ (.list xs) (.ref a)
      simp only [Den]
      exact ⟨a, items, rfl, ⟨n, addH_self _ _ _⟩, d.mono hl⟩
    · exact (g'.den p (.tail _ hp)).mono hl (Le.refl _)
  · rw [privs_fz]; exact hn'.2
  · rw [privs_fz] at hc
    have o2 := off c (pm.mem_iff.mpr (.tail _ hc))
    refine ⟨?_, o2.2⟩
    rw [addH_ne fun (q : c = a) => hn'.1 (q ▸ hc)]
    exact o2.1

theorem St.freezeAt {F : Fx} {ρ ρ' τ τ' H s} {a : Addr} {items : List Value} {n : Nat} (st : St F ρ τ H s) (ha : s.heap.get? a = some (listO items n)) (h1 : H a = none) (h2 : F.s₀.heap.get? a = none)
    (hv : ∃ σ, bindsOf σ = ρ' ∧ Vars F (addH H a (listO items n)) s.heap τ' σ) : St F ρ' τ' (addH H a (listO items n)) s where
  le := fun b o e => by
    unfold addH at e
    split at e
    · rename_i q; subst q; cases e; exact ha
    · exact st.le _ _ e
  keep := st.keep
  sub := st.sub.trans (addH_le _ h1)
  new := fun b hb => by
    by_cases q : b = a
    · subst q; exact .inr h2
    · rw [addH_ne q] at hb; exact st.new b hb
  gens := st.gens
  drawn := st.drawn
  os := st.os
  ns := st.ns
  cells := st.cells
  vars := hv

/-- a list of the frame's own is frozen: at the stack's top -/
theorem St.freezeTop {F : Fx} {ρ τ H s v xs} (st : St F ρ ((v, .own xs) :: τ) H s) : ∃ H', Le H H' ∧ St F ρ ((v, .fz (.list xs)) :: τ) H' s := by
  obtain ⟨a, items, rfl, ⟨n, ha⟩, d⟩ := st.topDen
  obtain ⟨σ, e, vs⟩ := st.vars
  obtain ⟨h1, h2, _, g⟩ := vs.good.freeze ha d
  exact ⟨_, addH_le _ h1, st.freezeAt ha h1 h2 ⟨σ, e, vs.names, vs.stored, g⟩⟩
/-- .. under a name -/
theorem St.freezeName {F : Fx} {ρ ρ' τ H s x xs} (st : St F ρ τ H s) (h : (x, B.own xs) ∈ ρ) (p : Put x (.fz (.list xs)) ρ ρ') : ∃ H', Le H H' ∧ St F ρ' τ H' s := by
  obtain ⟨σ, e, vs⟩ := st.vars
  subst e
  obtain ⟨σ1, u, c, σ2, rfl, e2⟩ := p.split
  have hc : c = .own xs := by
    obtain ⟨⟨y, w, b⟩, hm, he⟩ := List.mem_map.mp h
    cases he
    rcases List.mem_append.mp hm with q | q
    · exact absurd rfl (names_ne vs.names _ (List.mem_append_left _ q))
    · rcases List.mem_cons.mp q with q | q
      · cases q; rfl
      · exact absurd rfl (names_ne vs.names _ (List.mem_append_right _ q))
  subst hc
  have hd : DenB H s.heap.get? (u, .own xs) := vs.good.den _ (by simp)
  obtain ⟨a, items, rfl, ⟨n, ha⟩, d⟩ := hd
  have g := vs.good
  simp only [List.map_append, List.map_cons, List.append_assoc, List.cons_append] at g
  obtain ⟨h1, h2, _, g'⟩ := g.freeze ha d
  refine ⟨_, addH_le _ h1, st.freezeAt ha h1 h2 ⟨σ1 ++ (x, .ref a, .fz (.list xs)) :: σ2, e2 _, names_put vs.names, fun q hq => ?_, ?_⟩⟩
  · rcases List.mem_append.mp hq with q1 | q1
    · exact vs.stored q (List.mem_append_left _ q1)
    · rcases List.mem_cons.mp q1 with rfl | q1
      · exact vs.stored (x, .ref a, .own xs) (List.mem_append_right _ (.head _))
      · exact vs.stored q (List.mem_append_right _ (.tail _ q1))
  · simp only [List.map_append, List.map_cons, List.append_assoc, List.cons_append]
    exact g'

/-- a list of the frame's own under a name: it is changed in place -/
theorem St.ownName {F : Fx} (ok : F.Ok) {ρ τ H} {s : Shared} {x xs} (st : St F ρ τ H s) (h : (x, B.own xs) ∈ ρ) :
    ∃ a items n, Stored F.env s.heap x (.ref a) ∧ s.heap.get? a = some (listO items n) ∧ DenL H xs items ∧
      ∀ (s' : Shared) (items' : List Value) (n' : Nat) (xs' : List V) (ρ' : List (Str × B)), LeBut a s.heap.get? s'.heap.get? → s'.heap.get? a = some (listO items' n') → DenL H xs' items' → Put x (.own xs') ρ ρ' →
        s'.gens = s.gens → s'.drawn = s.drawn → s'.os = s.os → St F ρ' τ H s' := by
  obtain ⟨σ, e, vs⟩ := st.vars
  subst e
  obtain ⟨⟨y, w, b⟩, hm, he⟩ := List.mem_map.mp h
  have q1 : x = y := (congrArg Prod.fst he).symm
  have q2 : B.own xs = b := (congrArg Prod.snd he).symm
  subst q1
  subst q2
  clear he
  obtain ⟨a, items, rfl, ⟨n, ha⟩, d⟩ := vs.good.den (w, .own xs) (List.mem_append_left _ (List.mem_map.mpr ⟨_, hm, rfl⟩))
  refine ⟨a, items, n, vs.stored _ hm, ha, d, fun s' items' n' xs' ρ' k ha' d' p e1 e2 e3 => ?_⟩
  have hp : a ∈ privs (σ.map (·.2) ++ τ) := mem_privs (b := .own xs) rfl (List.mem_append_left _ (List.mem_map.mpr ⟨_, hm, rfl⟩))
  have o := vs.good.off a (List.mem_append_right _ hp)
  have hs : a ∉ F.store := fun q => (List.nodup_append.mp vs.good.nodup).2.2 a q a hp rfl
  have hn : x ∈ σ.map (·.1) := List.mem_map.mpr ⟨_, hm, rfl⟩
  refine st.but ok hs o.1 o.2.1 k (fun σ₁ e vs₁ mo => ?_) e1 e2 e3
  obtain ⟨σ1, u, c, σ2, hσ, e2'⟩ := p.split
  have hu : (u, c) = (Value.ref a, B.own xs) := by
    have hm' := hm
    rw [hσ] at hm'
    have nn := vs.names
    rw [hσ] at nn
    rcases List.mem_append.mp hm' with q | q
    · exact absurd rfl (names_ne nn _ (List.mem_append_left _ q))
    · rcases List.mem_cons.mp q with q | q
      · cases q; rfl
      · exact absurd rfl (names_ne nn _ (List.mem_append_right _ q))
  cases hu
  refine ⟨σ1 ++ (x, .ref a, .own xs') :: σ2, e2' _, ?_, fun q hq => ?_, ?_⟩
  · have nn := vs.names
    rw [hσ] at nn
    exact names_put nn
  · have st' := vs.stored
    rw [hσ] at st'
    rcases List.mem_append.mp hq with q1 | q1
    · exact mo _ _ (st' q (List.mem_append_left _ q1))
    · rcases List.mem_cons.mp q1 with rfl | q1
      · exact mo _ _ (st' (x, .ref a, .own xs) (List.mem_append_right _ (.head _)))
      · exact mo _ _ (st' q (List.mem_append_right _ (.tail _ q1)))
  · have g := vs.good
    rw [hσ] at g
    simp only [List.map_append, List.map_cons, List.append_assoc, List.cons_append] at g ⊢
    exact g.upd rfl rfl k ⟨a, items', rfl, ⟨n', ha'⟩, d'⟩ (by rw [ha']; rfl)

theorem St.perm {F : Fx} {ρ τ τ' H s} (st : St F ρ τ H s) (p : τ.Perm τ') : St F ρ τ' H s := by
  refine st.withVars ?_
  obtain ⟨σ, e, vs⟩ := st.vars
  exact ⟨σ, e, vs.names, vs.stored, vs.good.perm (List.Perm.append_left _ p)⟩

end Mine
namespace Mine

/-- the law's text without the lines that only name their part -/
def Q : Program := view PySem.Challenge.pw_xm0446_01 [1, 2, 3, 4, 5, 6, 7, 8, 9, 10, 11, 12, 14, 15, 16, 17, 18, 19, 20, 22, 23, 24, 25, 26, 27, 28, 30, 31, 32, 33, 34, 35, 36, 38, 39, 40, 41, 42, 43, 44, 46, 47, 48, 49, 50, 51, 52]

def seesLimbs (h : Heap) : Value → Option (List Int)
  | .ref b => match h.get? b with
    | some ⟨.type t, none, .seq ⟨l⟩ _, ⟨[]⟩⟩ => if t == "list" then l.mapM (fun v => match v with | .int i _ => some i | _ => none) else none
    | _ => none
  | _ => none
def seesNum (h : Heap) : Option Value → Option (List Int)
  | some (.ref a) => match h.get? a with
    | some ⟨.type t, none, .seq ⟨[.bool false, v]⟩ _, ⟨[]⟩⟩ => if t == "tuple" then seesLimbs h v else none
    | _ => none
  | _ => none
def seesConst (mg : Str → Option Value) (h : Heap) : Bool := seesNum h (mg "NOUGHT") == some [] && seesNum h (mg "UNIT") == some [1]
def ConstsAre (mg : Str → Option Value) (h : Heap) : Prop :=
  (∃ v, mg "NOUGHT" = some v ∧ Den h.get? (.tuple [.bool false, .list []]) v) ∧ ∃ v, mg "UNIT" = some v ∧ Den h.get? (.tuple [.bool false, .list [.int 1]]) v

theorem ints_of : ∀ (l : List Value) (is : List Int) (H : PH), l.mapM (fun v => match v with | .int i _ => some i | _ => none) = some is → DenL H (is.map V.int) l
  | [], is, H, e => by
    simp only [List.mapM_nil, Option.pure_def, Option.some.injEq] at e
    subst e; exact DenL.nil
  | v :: l, is, H, e => by
    rw [List.mapM_cons] at e
    obtain ⟨i, e1, e2⟩ := Option.bind_eq_some_iff.mp e
    obtain ⟨js, e3, e4⟩ := Option.bind_eq_some_iff.mp e2
    simp only [Option.pure_def, Option.some.injEq] at e4
    subst e4
    refine DenL.cons ?_ (ints_of l js H e3)
    cases v <;> simp only [Option.some.injEq, reduceCtorEq] at e1
    subst e1
    simp only [Den]
    exact ⟨_, rfl⟩
theorem limbs_of {h : Heap} {v : Value} {is : List Int} (e : seesLimbs h v = some is) : Den h.get? (.list (is.map V.int)) v := by
  unfold seesLimbs at e
  split at e
  · rename_i b
    split at e
    · rename_i t l n eb
      by_cases ht : (t == "list") = true
      · rw [if_pos ht] at e
        obtain rfl := eq_of_beq ht
        simp only [Den]
        exact ⟨b, l, rfl, ⟨n, eb⟩, ints_of _ _ _ e⟩
      · rw [if_neg ht] at e; cases e
    · cases e
  · cases e
theorem num_of {h : Heap} {v : Option Value} {is : List Int} (e : seesNum h v = some is) : ∃ x, v = some x ∧ Den h.get? (.tuple [.bool false, .list (is.map V.int)]) x := by
  unfold seesNum at e
  split at e
  · rename_i a
    split at e
    · rename_i t x n eb
      by_cases ht : (t == "tuple") = true
      · rw [if_pos ht] at e
        obtain rfl := eq_of_beq ht
        have d := limbs_of e
        refine ⟨_, rfl, ?_⟩
        unfold Den
        exact ⟨a, _, rfl, ⟨n, eb⟩, DenL.cons (by simp only [Den]) (DenL.cons d DenL.nil)⟩
      · rw [if_neg ht] at e; cases e
    · cases e
  · cases e
theorem consts_of {mg : Str → Option Value} {h : Heap} (e : seesConst mg h = true) : ConstsAre mg h := by
  unfold seesConst at e
  obtain ⟨a, b⟩ := Bool.and_eq_true_iff.mp e
  exact ⟨num_of (eq_of_beq a), num_of (eq_of_beq b)⟩
theorem ConstsAre.keeps {mg : Str → Option Value} {h h' : Heap} (x : ConstsAre mg h) (k : ∀ b o, h.get? b = some o → h'.get? b = some o) : ConstsAre mg h' := by
  obtain ⟨⟨v, a, b⟩, w, c, d⟩ := x
  exact ⟨⟨v, a, Den.mono k _ _ b⟩, w, c, Den.mono k _ _ d⟩

/-- the head from the start-up that the library has run, and one run of the text behind it -/
theorem left_of_boot {p q : Program} {loose : List Str} {Xt : Shared → Bool} {α : Type} {Yf : Shared → α} {Ya : World → α} {N : Nat} {g0 : Bool} {H₀ : Params → Heap} {gs₀ : Array GenState} {d₀ : Drawn} {k₀ : Nat}
    (open_ : ∀ w : World, (fencedOpening treeTable p w N).map (fun s => (s.heap, s.gens, s.drawn, s.toks)) = some (H₀ w.params, gs₀, d₀, k₀))
    (run : ∀ (w : World) (os : OsState), (topFrom treeTable p w N ⟨H₀ w.params, gs₀, d₀, k₀, os⟩).map (fun s => (openSeen q loose (importedModules p.main.body) Xt g0 s, Yf s)) = some (openGood q loose, Ya w)) :
    LeftO p q loose Xt Yf Ya N g0 := fun w => by
  obtain ⟨⟨h, gs, d, k, os⟩, e, e'⟩ := Option.map_eq_some_iff.mp (open_ w)
  obtain ⟨rfl, rfl, rfl, rfl⟩ : h = H₀ w.params ∧ gs = gs₀ ∧ d = d₀ ∧ k = k₀ := by simpa using e'
  unfold openEnds
  rw [e]
  exact run w os

def Xt (s : Shared) : Bool := seesConst (s.heap.nsMap mainGlobals) s.heap

theorem opens : ∀ w : World, (fencedOpening treeTable PySem.Challenge.pw_xm0446_01 w 4256).map (fun s => (s.heap, s.gens, s.drawn, s.toks)) = some (boot_heap w.params, Array.mk [], boot_drawn, boot_toks) :=
  boot_open (by kernel_rfl) (by decide +kernel) (fun s => by kernel_rfl)

theorem runs (w : World) (os : OsState) : (topFrom treeTable PySem.Challenge.pw_xm0446_01 w 4256 ⟨boot_heap w.params, Array.mk [], boot_drawn, boot_toks, os⟩).map
    (fun s => (openSeen Q [Str.ofString "NOUGHT", Str.ofString "UNIT"] (importedModules PySem.Challenge.pw_xm0446_01.main.body) Xt true s, ())) = some (openGood Q [Str.ofString "NOUGHT", Str.ofString "UNIT"], ()) := by
  delta topFrom
  rw [PySem.W.Fast.te14082659384304107361, PySem.W.Fast.te4187177175401517315, PySem.W.Fast.te14364793385576792824]
  kernel_rfl
end Mine
namespace Mine
theorem left : LeftO PySem.Challenge.pw_xm0446_01 Q [Str.ofString "NOUGHT", Str.ofString "UNIT"] Xt (fun _ => ()) (fun _ => ()) 4256 := left_of_boot opens runs
end Mine
namespace Mine
theorem said : PySem.Challenge.rw_xm0446_01.wellSaid = true := by
  rw [PySem.W.Fast.te9446332074065402090]
  kernel_rfl
end Mine
namespace Mine

/-- what stands below every call: the text's top -/
structure Gl where
  prog : Program
  w : World
  base : Heap
  mg : Str → Option Value
  mb : Str → Option Value

def defsOf : List DefRec := recsOf PySem.Challenge.pw_xm0446_01

structure Gl.Ok (g : Gl) : Prop where
  gns : g.base.Ns mainGlobals g.mg
  bns : g.base.Ns builtinsNs g.mb
  nolimit : g.base.NoLimit
  builtins : ∀ x : Str, x ≠ "__name__" → g.mb x = bootBuiltins x
  fn : ∀ d ∈ defsOf, ∃ a o pm code doc, g.mg d.name = some (.ref a) ∧ g.base.get? a = some o ∧ o.data = .func (docDef d.name d.params d.body d.scope pm code doc) ∧ g.base.CodeRec code d.name
  free : ∀ x ∈ ([("len" : Str), "range", "enumerate", "abs", "int", "sum", "min"] : List Str), g.mg x = none
  nought : ∃ v, g.mg "NOUGHT" = some v ∧ Den g.base.get? (.tuple [.bool false, .list []]) v
  unit : ∃ v, g.mg "UNIT" = some v ∧ Den g.base.get? (.tuple [.bool false, .list [.int 1]]) v

def Room (n : Nat) (A : Around) : Prop := A.handled = none ∧ A.depth + n < recursionLimit ∧ A.units + 4 * n + 80 < cLine
theorem Room.less {n m : Nat} {A : Around} (h : Room n A) (l : m ≤ n) : Room m A := ⟨h.1, by have := h.2.1; omega, by have := h.2.2; omega⟩
theorem Room.deeper {n : Nat} {A : Around} {env : Env} (h : Room (n + 1) A) : Room n (A.deeper env) :=
  ⟨h.1, by have := h.2.1; show A.depth + 1 + n < recursionLimit; omega, by have := h.2.2; show A.units + 3 + 4 * n + 80 < cLine; omega⟩
theorem Room.in1 {n : Nat} {A : Around} (h : Room (n + 1) A) : Room n A.in1 :=
  ⟨h.1, by have := h.2.1; show A.depth + n < recursionLimit; omega, by have := h.2.2; show A.units + 1 + 4 * n + 80 < cLine; omega⟩

abbrev Kn := List (Str × NameKind)

structure Okk (g : Gl) (n : Nat) (kn : Kn) (F : Fx) : Prop extends F.Ok where
  gok : g.Ok
  room : Room n F.A
  names : F.env.scope.names = kn
  globals : F.env.globals = mainGlobals
  builtins : F.env.builtins = builtinsNs
  base : Le g.base.get? F.H₀
  h₀ : Le F.H₀ F.s₀.heap.get?
  owns : kn.lookup (".0" : Str) = none → ∀ x, kn.lookup x = some .cell → ∃ c, F.env.cells.lookup x = some c ∧ c ∈ F.store

theorem Okk.baseLe {g n kn F ρ τ H s} (o : Okk g n kn F) (st : St F ρ τ H s) : Le g.base.get? s.heap.get? := (o.base.trans st.sub).trans st.le
theorem Okk.baseH {g n kn F ρ τ H s} (o : Okk g n kn F) (st : St F ρ τ H s) : Le g.base.get? H := o.base.trans st.sub
theorem Okk.kindOf {g n kn F} (o : Okk g n kn F) (x : Str) : F.env.kindOf x = kn.lookup x := by rw [← o.names]; rfl

abbrev NoE : Value → Shared → Prop := fun _ _ => False

/-- the frozen part and the heap grow; what is newly frozen is new -/
structure Up (H : PH) (s : Shared) (H' : PH) (s' : Shared) : Prop where
  sub : Le H H'
  keep : Le s.heap.get? s'.heap.get?
  new : ∀ b, H' b ≠ none → H b ≠ none ∨ s.heap.get? b = none
theorem Up.id {H : PH} {s s' : Shared} (k : Le s.heap.get? s'.heap.get?) : Up H s H s' := ⟨Le.refl H, k, fun _ h => .inl h⟩
theorem Up.trans {H H' H'' : PH} {s s' s'' : Shared} (a : Up H s H' s') (b : Up H' s' H'' s'') : Up H s H'' s'' :=
  ⟨a.sub.trans b.sub, a.keep.trans b.keep, fun c h => by
    rcases b.new c h with q | q
    · exact a.new c q
    · cases q2 : s.heap.get? c with
      | none => exact .inr rfl
      | some o => have := a.keep _ _ q2; rw [q] at this; cases this⟩
theorem Up.add {H : PH} {s : Shared} (o : Obj) (hn : H s.heap.objs.size = none) : Up H s (addH H s.heap.objs.size o) { s with heap := s.heap.push o } :=
  ⟨addH_le o hn, push_le _ _, fun b hb => by
    by_cases q : b = s.heap.objs.size
    · subst q; exact .inr (get_size_none _)
    · rw [addH_ne q] at hb; exact .inl hb⟩

/-- an expression's value: it is put on the stack -/
def Ev (g : Gl) (n : Nat) (kn : Kn) (ρ : List (Str × B)) (e : Expr) (b : B) : Prop :=
  ∀ F τ H s, Okk g n kn F → St F ρ τ H s → wpAny (model g.prog g.w) F.A (eval e F.env) (fun v s' => ∃ H', Up H s H' s' ∧ St F ρ ((v, b) :: τ) H' s') NoE s
/-- a test's outcome -/
def Tr (g : Gl) (n : Nat) (kn : Kn) (ρ : List (Str × B)) (e : Expr) (b : Bool) : Prop :=
  ∀ F τ H s, Okk g n kn F → St F ρ τ H s → wpAny (model g.prog g.w) F.A (isTrue e F.env (eval e F.env)) (fun c s' => c = b ∧ ∃ H', Up H s H' s' ∧ St F ρ τ H' s') NoE s

inductive Fl where
  | next
  | ret (b : B)
def PostX (F : Fx) (τ : List (Value × B)) (H' : PH) (s' : Shared) (ρ' : List (Str × B)) : Fl → Flow → Prop
  | .next, .next => St F ρ' τ H' s'
  | .ret b, .ret v => St F ρ' ((v, b) :: τ) H' s'
  | _, _ => False
def Ex (g : Gl) (n : Nat) (kn : Kn) (ρ : List (Str × B)) (st : Stmt) (f : Fl) (ρ' : List (Str × B)) : Prop :=
  ∀ F τ H s, Okk g n kn F → St F ρ τ H s → wpAny (model g.prog g.w) F.A (exec st F.env) (fun fl s' => ∃ H', Le H H' ∧ PostX F τ H' s' ρ' f fl) NoE s
def Exs (g : Gl) (n : Nat) (kn : Kn) (ρ : List (Str × B)) (sts : List Stmt) (f : Fl) (ρ' : List (Str × B)) : Prop :=
  ∀ F τ H s, Okk g n kn F → St F ρ τ H s → wpAny (model g.prog g.w) F.A (execs sts F.env) (fun fl s' => ∃ H', Le H H' ∧ PostX F τ H' s' ρ' f fl) NoE s

/-- what a call leaves behind -/
structure CallPost (H : PH) (s : Shared) (H' : PH) (s' : Shared) : Prop where
  sub : Le H H'
  le : Le H' s'.heap.get?
  keep : Le s.heap.get? s'.heap.get?
  new : ∀ b, H' b ≠ none → H b ≠ none ∨ s.heap.get? b = none
  gens : s'.gens = s.gens
  drawn : s'.drawn = s.drawn
  os : s'.os = s.os
/-- a call's contract: frozen data in, a frozen datum out -/
def Fn (g : Gl) (n : Nat) (f : Value) (xs : List V) (y : V) : Prop :=
  ∀ A H s vals, g.Ok → Room n A → Le g.base.get? H → Le H s.heap.get? → DenL H xs vals →
    wpAny (model g.prog g.w) A (call f vals) (fun v s' => ∃ H', CallPost H s H' s' ∧ Den H' y v) NoE s

variable {g : Gl} {n : Nat} {kn : Kn} {ρ ρ' : List (Str × B)}

theorem St.call {F : Fx} {ρ τ H s H' s'} (st : St F ρ τ H s) (p : CallPost H s H' s') : St F ρ τ H' s' where
  le := p.le
  keep := st.keep.trans p.keep
  sub := st.sub.trans p.sub
  new := fun b hb => by
    rcases p.new b hb with h | h
    · exact st.new b h
    · cases q : F.s₀.heap.get? b with
      | none => exact .inr rfl
      | some o => have := st.keep _ _ q; rw [h] at this; cases this
  gens := p.gens.trans st.gens
  drawn := p.drawn.trans st.drawn
  os := p.os.trans st.os
  ns := let ⟨m, h⟩ := st.ns; ⟨m, h.keeps p.keep⟩
  cells := fun y c e => let ⟨v, h⟩ := st.cells y c e; ⟨v, h.keeps p.keep⟩
  vars := by
    obtain ⟨σ, e, vs⟩ := st.vars
    refine ⟨σ, e, vs.names, fun q hq => (vs.stored q hq).mono p.keep, vs.good.mono p.keep p.sub fun a ha => ?_⟩
    have o := vs.good.off a ha
    cases q : H' a with
    | none => rfl
    | some ob =>
      rcases p.new a (by rw [q]; exact fun x => nomatch x) with h | h
      · exact absurd o.1 h
      · rw [h] at o; exact absurd o.2.2 (by simp)

theorem CallPost.up {H s H' s'} (p : CallPost H s H' s') : Up H s H' s' := ⟨p.sub, p.keep, p.new⟩
theorem Up.call {F : Fx} {ρ τ ρ' τ' H s H' s'} (u : Up H s H' s') (st : St F ρ τ H s) (st' : St F ρ' τ' H' s') : CallPost H s H' s' :=
  ⟨u.sub, st'.le, u.keep, u.new, st'.gens.trans st.gens.symm, st'.drawn.trans st.drawn.symm, st'.os.trans st.os.symm⟩
theorem Ev.less {m : Nat} {e b} (h : Ev g m kn ρ e b) (l : m ≤ n) : Ev g n kn ρ e b := fun F τ H s ok st => h F τ H s { ok with room := ok.room.less l } st
theorem Fn.less {m : Nat} {f xs y} (h : Fn g m f xs y) (l : m ≤ n) : Fn g n f xs y := fun A H s vals go r => h A H s vals go (r.less l)

theorem St.topFz {F : Fx} {τ H s v x} (st : St F ρ ((v, .fz x) :: τ) H s) : Den H x v := st.topDen
-- names and constants
theorem Ev_name {x : Str} {p : Pos} {v : V} (h : (x, B.fz v) ∈ ρ) (hd : (x == ("__debug__" : Str)) = false := by decide) : Ev g n kn ρ (.Name x p) (.fz v) := by
  intro F τ H s ok st
  obtain ⟨u, hs, d⟩ := st.look h
  refine wpAny_Name ?_ hd
  rcases hs with ⟨k, m, hm, e⟩ | ⟨k, c, hl, i⟩
  · exact wpAny_loadName_local ok.kind k hm e ⟨H, Up.id (Le.refl _), st.push d⟩
  · exact wpAny_loadName_cell ok.kind k hl i ⟨H, Up.id (Le.refl _), st.push d⟩

theorem Ev_int {i : Int} {k p} : Ev g n kn ρ (.Constant (.int i) k p) (.fz (.int i)) := fun F τ H s ok st =>
  wpAny_Constant_int ⟨H, Up.id (Le.refl _), (st.toks _).push (by simp only [Den]; exact ⟨_, rfl⟩)⟩
theorem Ev_bool {b : Bool} {k p} : Ev g n kn ρ (.Constant (.bool b) k p) (.fz (.bool b)) := fun F τ H s ok st =>
  wpAny_Constant_bool ⟨H, Up.id (Le.refl _), st.push (by simp only [Den])⟩

theorem Ev_global {x : Str} {p : Pos} {y : V} (hv : ∀ g : Gl, g.Ok → ∃ v, g.mg x = some v ∧ Den g.base.get? y v) (hk : kn.lookup x = some .globalImplicit := by rfl) (hd : (x == ("__debug__" : Str)) = false := by decide) : Ev g n kn ρ (.Name x p) (.fz y) := by
  intro F τ H s ok st
  obtain ⟨v, e, d⟩ := hv g ok.gok
  have hg : s.heap.Ns F.env.globals g.mg := by rw [ok.globals]; exact ok.gok.gns.keeps (ok.baseLe st)
  exact Name_function_global ok.kind (by rw [ok.kindOf]; exact hk) (loadGlobal_global hg e ⟨H, Up.id (Le.refl _), st.push (Den.mono (ok.baseH st) _ _ d)⟩) hd
theorem Ev_fun {x : Str} {p : Pos} {a : Addr} (e : g.mg x = some (.ref a)) (hk : kn.lookup x = some .globalImplicit := by rfl) (hd : (x == ("__debug__" : Str)) = false := by decide) : Ev g n kn ρ (.Name x p) (.fz (.raw (.ref a))) := by
  intro F τ H s ok st
  have hg : s.heap.Ns F.env.globals g.mg := by rw [ok.globals]; exact ok.gok.gns.keeps (ok.baseLe st)
  exact Name_function_global ok.kind (by rw [ok.kindOf]; exact hk) (loadGlobal_global hg e ⟨H, Up.id (Le.refl _), st.push (by simp only [Den])⟩) hd
theorem Ev_builtin {x : Str} {p : Pos} {v : Value} (hb : bootBuiltins x = some v) (hx : x ∈ ([("len" : Str), "range", "enumerate", "abs", "int", "sum", "min"] : List Str)) (hn : x ≠ "__name__" := by decide)
    (hk : kn.lookup x = some .globalImplicit := by rfl) (hd : (x == ("__debug__" : Str)) = false := by decide) : Ev g n kn ρ (.Name x p) (.fz (.raw v)) := by
  intro F τ H s ok st
  have hg : s.heap.Ns F.env.globals g.mg := by rw [ok.globals]; exact ok.gok.gns.keeps (ok.baseLe st)
  have hbn : s.heap.Ns F.env.builtins g.mb := by rw [ok.builtins]; exact ok.gok.bns.keeps (ok.baseLe st)
  exact Name_function_global ok.kind (by rw [ok.kindOf]; exact hk) (loadGlobal_builtin hg (ok.gok.free x hx) hbn ((ok.gok.builtins x hn).trans hb) ⟨H, Up.id (Le.refl _), st.push (by simp only [Den])⟩) hd

-- operations upon ints
def IntOp (g : Gl) (op : Operator) (a b c : Int) : Prop :=
  ∀ (A : Around) (s : Shared) (t u : Tok) (Q E : Value → Shared → Prop), (∀ k, Q (.int c k) { s with toks := s.toks + 1 }) → wpAny (model g.prog g.w) A (binaryOp op (.int a t) (.int b u)) Q E s
theorem op_add {a b : Int} : IntOp g .Add a b (a + b) := fun A s t u Q E h => P.add_int (h _)
theorem op_sub {a b : Int} : IntOp g .Sub a b (a - b) := fun A s t u Q E h => P.sub_int (h _)
theorem op_mul {a b : Int} (hm : IntMulOk a b) : IntOp g .Mult a b (a * b) := fun A s t u Q E h => P.mul_int (h _) hm
theorem op_mod {a b : Int} (hb : b ≠ 0) : IntOp g .Mod a b (a.fmod b) := fun A s t u Q E h => mod_int' hb (h _)
theorem op_div {a b : Int} (hb : b ≠ 0) (hp : Builtin.divisionGoesByPylong a b = false) : IntOp g .FloorDiv a b (a.fdiv b) := fun A s t u Q E h => floordiv_int hb (h _) (.inl hp)
theorem op_and {a b : Int} : IntOp g .BitAnd a b (Builtin.bitAnd a b) := fun A s t u Q E h => and_int (h _)
theorem op_or {a b : Int} : IntOp g .BitOr a b (Builtin.bitOr a b) := fun A s t u Q E h => or_int (h _)
theorem op_shl {a b : Int} (hn : 0 ≤ b) (hsz : (Builtin.Int.intBits a : Int) + b ≤ 2 ^ 27) : IntOp g .LShift a b (a * 2 ^ b.toNat) := fun A s t u Q E h => lshift_int hn hsz (h _)
theorem op_shr {a b : Int} (hn : 0 ≤ b) : IntOp g .RShift a b (a.fdiv (2 ^ b.toNat)) := fun A s t u Q E h => rshift_int hn (h _)

theorem den_int {H : PH} {i : Int} {v : Value} (d : Den H (.int i) v) : ∃ t, v = .int i t := by simpa only [Den] using d
theorem den_bool {H : PH} {b : Bool} {v : Value} (d : Den H (.bool b) v) : v = .bool b := by simpa only [Den] using d
theorem den_raw {H : PH} {u v : Value} (d : Den H (.raw u) v) : v = u := by simpa only [Den] using d
theorem mk_int {H : PH} {i : Int} {t : Tok} : Den H (.int i) (.int i t) := by simp only [Den]; exact ⟨t, rfl⟩
theorem mk_bool {H : PH} {b : Bool} : Den H (.bool b) (.bool b) := by simp only [Den]

theorem Ev_binop {l r : Expr} {op : Operator} {p : Pos} {a b c : Int} (h1 : Ev g n kn ρ l (.fz (.int a))) (h2 : Ev g n kn ρ r (.fz (.int b))) (h3 : IntOp g op a b c) : Ev g n kn ρ (.BinOp l op r p) (.fz (.int c)) := by
  intro F τ H s ok st
  refine wpAny_BinOp (wpAny_mono (h1 F τ H s ok st) (fun u s₁ h => ?_) fun _ _ e => e)
  obtain ⟨H₁, u1, st1⟩ := h
  refine wpAny_mono (h2 F _ H₁ s₁ ok st1) (fun w s₂ h => ?_) fun _ _ e => e
  obtain ⟨H₂, u2, st2⟩ := h
  obtain ⟨t2, rfl⟩ := den_int st2.topFz
  obtain ⟨t1, rfl⟩ := den_int st2.pop.topFz
  exact h3 F.A s₂ t1 t2 _ _ fun k => ⟨H₂, (u1.trans u2).trans (Up.id (Le.refl _)), ((st2.pop.pop).toks _).push mk_int⟩

def IntCmp (g : Gl) (op : CmpOp) (a b : Int) (c : Bool) : Prop :=
  ∀ (A : Around) (s : Shared) (t u : Tok) (Q E : Value → Shared → Prop), Q (.bool c) s → wpAny (model g.prog g.w) A (compareOp op (.int a t) (.int b u)) Q E s
theorem cmp_eq {a b : Int} : IntCmp g .Eq a b (a == b) := fun A s t u Q E h => P.eq_int h
theorem cmp_ne {a b : Int} : IntCmp g .NotEq a b (a != b) := fun A s t u Q E h => P.ne_int h
theorem cmp_lt {a b : Int} : IntCmp g .Lt a b (decide (a < b)) := fun A s t u Q E h => P.lt_int h
theorem cmp_le {a b : Int} : IntCmp g .LtE a b (decide (a ≤ b)) := fun A s t u Q E h => P.le_int h
theorem cmp_gt {a b : Int} : IntCmp g .Gt a b (decide (a > b)) := fun A s t u Q E h => P.gt_int h
theorem cmp_ge {a b : Int} : IntCmp g .GtE a b (decide (a ≥ b)) := fun A s t u Q E h => P.ge_int h

/-- two frozen values are compared -/
def VCmp (g : Gl) (n : Nat) (op : CmpOp) (x y : V) (c : Bool) : Prop :=
  ∀ (A : Around) (H : PH) (s : Shared) (u v : Value) (Q E : Value → Shared → Prop), Room n A → Le H s.heap.get? → Den H x u → Den H y v → (∀ s', Le s.heap.get? s'.heap.get? → s'.gens = s.gens → s'.drawn = s.drawn → s'.os = s.os → Q (.bool c) s') → wpAny (model g.prog g.w) A (compareOp op u v) Q E s
theorem VCmp.int {op a b c} (h : IntCmp g op a b c) : VCmp g n op (.int a) (.int b) c := fun A H s u v Q E r l d1 d2 q => by
  obtain ⟨t1, rfl⟩ := den_int d1
  obtain ⟨t2, rfl⟩ := den_int d2
  exact h A s t1 t2 Q E (q s (Le.refl _) rfl rfl rfl)

theorem Tr_cmp {l r : Expr} {op : CmpOp} {p : Pos} {a b : V} {c : Bool} (h1 : Ev g n kn ρ l (.fz a)) (h2 : Ev g n kn ρ r (.fz b)) (h3 : VCmp g n op a b c) (hm : behindInMarks op r = false := by with_unfolding_all rfl) :
    Tr g n kn ρ (.Compare l [op] [r] p) c := by
  intro F τ H s ok st
  refine wpAny_isTrue_Compare1 (wpAny_mono (h1 F τ H s ok st) (fun u s₁ h => ?_) fun _ _ e => e) hm
  obtain ⟨H₁, u1, st1⟩ := h
  refine wpAny_mono (h2 F _ H₁ s₁ ok st1) (fun w s₂ h => ?_) fun _ _ e => e
  obtain ⟨H₂, u2, st2⟩ := h
  exact h3 F.A H₂ s₂ _ _ _ _ ok.room st2.le st2.pop.topFz st2.topFz fun s' k e1 e2 e3 => wpAny_truthy_bool ⟨rfl, H₂, (u1.trans u2).trans (Up.id k), st2.pop.pop.ext k e1 e2 e3⟩
theorem Ev_cmp {l r : Expr} {op : CmpOp} {p : Pos} {a b : V} {c : Bool} (h1 : Ev g n kn ρ l (.fz a)) (h2 : Ev g n kn ρ r (.fz b)) (h3 : VCmp g n op a b c) (hm : behindInMarks op r = false := by with_unfolding_all rfl) :
    Ev g n kn ρ (.Compare l [op] [r] p) (.fz (.bool c)) := by
  intro F τ H s ok st
  refine wpAny_Compare1 (wpAny_mono (h1 F τ H s ok st) (fun u s₁ h => ?_) fun _ _ e => e) hm
  obtain ⟨H₁, u1, st1⟩ := h
  refine wpAny_mono (h2 F _ H₁ s₁ ok st1) (fun w s₂ h => ?_) fun _ _ e => e
  obtain ⟨H₂, u2, st2⟩ := h
  exact h3 F.A H₂ s₂ _ _ _ _ ok.room st2.le st2.pop.topFz st2.topFz fun s' k e1 e2 e3 => ⟨H₂, (u1.trans u2).trans (Up.id k), (st2.pop.pop.ext k e1 e2 e3).push mk_bool⟩
theorem Tr_not {x : Expr} {p : Pos} {b : Bool} (h : Tr g n kn ρ x b) : Tr g n kn ρ (.UnaryOp .Not x p) (!b) := by
  intro F τ H s ok st
  refine wpAny_isTrue_Not (wpAny_mono (h F τ H s ok st) (fun c s₁ h => ?_) fun _ _ e => e)
  obtain ⟨rfl, q⟩ := h
  exact ⟨rfl, q⟩
theorem Tr_and2 {x y : Expr} {p : Pos} {a b : Bool} (h1 : Tr g n kn ρ x a) (h2 : a = true → Tr g n kn ρ y b) : Tr g n kn ρ (.BoolOp .And [x, y] p) (a && b) := by
  intro F τ H s ok st
  refine wpAny_isTrue_BoolOp (wpAny_allTrue_And_cons (wpAny_mono (h1 F τ H s ok st) (fun c s₁ h => ?_) fun _ _ e => e))
  obtain ⟨rfl, H₁, u1, st1⟩ := h
  cases c with
  | false => exact ⟨rfl, H₁, u1, st1⟩
  | true =>
    refine wpAny_allTrue_And_cons (wpAny_mono (h2 rfl F τ H₁ s₁ ok st1) (fun c s₂ h => ?_) fun _ _ e => e)
    obtain ⟨rfl, H₂, u2, st2⟩ := h
    cases c with
    | false => exact ⟨rfl, H₂, u1.trans u2, st2⟩
    | true => exact wpAny_allTrue_And_nil ⟨rfl, H₂, u1.trans u2, st2⟩
theorem Ev_ife {t x y : Expr} {p : Pos} {c : Bool} {b : B} (h1 : Tr g n kn ρ t c) (h2 : c = true → Ev g n kn ρ x b) (h3 : c = false → Ev g n kn ρ y b) : Ev g n kn ρ (.IfExp t x y p) b := by
  intro F τ H s ok st
  refine wpAny_IfExp (wpAny_mono (h1 F τ H s ok st) (fun c s₁ h => ?_) fun _ _ e => e)
  obtain ⟨rfl, H₁, u1, st1⟩ := h
  cases c with
  | true => exact wpAny_mono (h2 rfl F τ H₁ s₁ ok st1) (fun v s₂ ⟨H₂, u2, st2⟩ => ⟨H₂, u1.trans u2, st2⟩) fun _ _ e => e
  | false => exact wpAny_mono (h3 rfl F τ H₁ s₁ ok st1) (fun v s₂ ⟨H₂, u2, st2⟩ => ⟨H₂, u1.trans u2, st2⟩) fun _ _ e => e
/-- a test that is no comparison: its value's truth -/
theorem Tr_bool {e : Expr} {b : Bool} (h : Ev g n kn ρ e (.fz (.bool b))) (hs : ∀ env whole, isTrue e env whole = (do let v ← whole; standAt e.pos; holding [v] (truthy v)) := by intros; rfl) : Tr g n kn ρ e b := by
  intro F τ H s ok st
  rw [hs]
  refine wpAny_bind (wpAny_mono (h F τ H s ok st) (fun v s₁ h => ?_) fun _ _ e => e)
  obtain ⟨H₁, u1, st1⟩ := h
  cases den_bool st1.topFz
  exact wpAny_bind (wpAny_standAt (wpAny_holding (wpAny_truthy_bool ⟨rfl, H₁, u1, st1.pop⟩)))

end Mine
namespace Mine

def dAt (k : Nat) : DefRec := match PySem.Challenge.pw_xm0446_01.main.body.getD k (.Pass default) with
  | .FunctionDef name args body _ _ _ scope _ _ pos => ⟨name, args, body, scope, pos⟩
  | _ => ⟨"", ⟨[], [], none, [], [], none, []⟩, [], { kind := .function, names := [], isGenerator := false, isCoroutine := false }, default⟩
theorem defs_eq : defsOf = ((List.range 53).filterMap fun k => if k ∈ [0,1,2,3,13,21,29,30,31,37,45] then none else some (dAt k)) := by kernel_rfl
theorem dAt_mem {k : Nat} (h : k < 53) (h' : k ∉ [0,1,2,3,13,21,29,30,31,37,45]) : dAt k ∈ defsOf := by
  rw [defs_eq]
  exact List.mem_filterMap.mpr ⟨k, List.mem_range.mpr h, if_neg h'⟩

variable {g : Gl} {n : Nat} {kn : Kn} {ρ ρ' ρ₁ ρ₂ : List (Str × B)}

theorem St.sublist {F : Fx} {ρ τ τ' H s} (st : St F ρ τ H s) (p : τ'.Sublist τ) : St F ρ τ' H s := by
  refine st.withVars ?_
  obtain ⟨σ, e, vs⟩ := st.vars
  exact ⟨σ, e, vs.names, vs.stored, vs.good.less (List.Sublist.append (List.Sublist.refl _) p)⟩
theorem St.popN {F : Fx} {ρ τ₁ τ H s} (st : St F ρ (τ₁ ++ τ) H s) : St F ρ τ H s := st.sublist (List.sublist_append_right _ _)

/-- several values, one after the other -/
def EvL (g : Gl) (n : Nat) (kn : Kn) (ρ : List (Str × B)) (es : List Expr) (bs : List B) : Prop :=
  ∀ pos F τ H s, Okk g n kn F → St F ρ τ H s → wpAny (model g.prog g.w) F.A (spliced (backTo pos (starEach es F.env))) (fun vs s' => ∃ H', Up H s H' s' ∧ vs.length = bs.length ∧ St F ρ ((vs.zip bs).reverse ++ τ) H' s') NoE s
theorem EvL_nil : EvL g n kn ρ [] [] := fun pos F τ H s ok st => wpAny_items_nil ⟨H, Up.id (Le.refl _), rfl, st⟩
theorem EvL_cons {e : Expr} {es : List Expr} {b : B} {bs : List B} (h1 : Ev g n kn ρ e b) (h2 : EvL g n kn ρ es bs) (he : ∀ env, starEach (e :: es) env = (false, eval e env) :: starEach es env := by intro _; rfl) : EvL g n kn ρ (e :: es) (b :: bs) := by
  intro pos F τ H s ok st
  refine wpAny_items_cons (wpAny_mono (h1 F τ H s ok st) (fun v s₁ h => ?_) fun _ _ e => e) (he _)
  obtain ⟨H₁, u1, st1⟩ := h
  refine wpAny_mono (h2 pos F _ H₁ s₁ ok st1) (fun vs s₂ h => ?_) fun _ _ e => e
  obtain ⟨H₂, u2, hl, st2⟩ := h
  refine ⟨H₂, u1.trans u2, by simp only [List.length_cons, hl], ?_⟩
  simpa only [List.zip_cons_cons, List.reverse_cons, List.append_assoc, List.cons_append, List.nil_append] using st2

theorem denL_zip {H : PH} {h : PH} : ∀ {xs : List V} {vs : List Value}, vs.length = (xs.map B.fz).length → (∀ p ∈ vs.zip (xs.map B.fz), DenB H h p) → DenL H xs vs
  | [], [], _, _ => DenL.nil
  | [], _ :: _, e, _ => by simp at e
  | _ :: _, [], e, _ => by simp at e
  | x :: xs, v :: vs, e, h => DenL.cons (h (v, .fz x) (by simp)) (denL_zip (by simpa using e) fun p hp => h p (by simp only [List.map_cons, List.zip_cons_cons]; exact .tail _ hp))
theorem St.denL {F : Fx} {τ H s} {xs : List V} {vs : List Value} (st : St F ρ ((vs.zip (xs.map B.fz)).reverse ++ τ) H s) (hl : vs.length = (xs.map B.fz).length) : DenL H xs vs :=
  denL_zip hl fun p hp => st.memDen (List.mem_append_left _ (List.mem_reverse.mpr hp))

/-- frozen values, one after the other -/
abbrev EvF (g : Gl) (n : Nat) (kn : Kn) (ρ : List (Str × B)) (es : List Expr) (xs : List V) : Prop := EvL g n kn ρ es (xs.map B.fz)
theorem EvF_nil : EvF g n kn ρ [] [] := EvL_nil
theorem EvF_cons {e : Expr} {es : List Expr} {x : V} {xs : List V} (h1 : Ev g n kn ρ e (.fz x)) (h2 : EvF g n kn ρ es xs) (he : ∀ env, starEach (e :: es) env = (false, eval e env) :: starEach es env := by intro _; rfl) : EvF g n kn ρ (e :: es) (x :: xs) := EvL_cons h1 h2 he

theorem Ev_tuple {es : List Expr} {k : Nat} {p : Pos} {xs : List V} (h : EvF g n kn ρ es xs) (hz : xs.length ≤ 1000 := by exact Nat.le_of_ble_eq_true rfl) : Ev g n kn ρ (.Tuple es k p) (.fz (.tuple xs)) := by
  intro F τ H s ok st
  refine wpAny_Tuple (wpAny_mono (h p F τ H s ok st) (fun vs s₁ h => ?_) fun _ _ e => e)
  obtain ⟨H₁, u1, hl, st1⟩ := h
  have hl' : vs.length = xs.length := by simpa using hl
  refine ⟨by rw [hl', sizeLine_eq]; omega, ?_⟩
  have d := st1.denL hl
  have hn : H₁ s₁.heap.objs.size = none := by
    cases q : H₁ s₁.heap.objs.size with
    | none => rfl
    | some o' => have := st1.le _ _ q; rw [get_size_none] at this; cases this
  have le := addH_le (H := H₁) (tupO vs 0) hn
  refine ⟨_, u1.trans (Up.add _ hn), st1.popN.allocFz (tupO vs 0) rfl (.tuple xs) ?_⟩
  simp only [Den]
  exact ⟨_, vs, rfl, ⟨0, addH_self _ _ _⟩, d.mono le⟩
/-- an expression that makes a list of the frame's own -/
def EvO (g : Gl) (n : Nat) (kn : Kn) (ρ : List (Str × B)) (e : Expr) (xs : List V) : Prop :=
  ∀ F τ H s, Okk g n kn F → St F ρ τ H s → wpAny (model g.prog g.w) F.A (eval e F.env) (fun v s' => ∃ H', Up H s H' s' ∧ (∃ a, v = .ref a ∧ s.heap.get? a = none) ∧ St F ρ ((v, .own xs) :: τ) H' s') NoE s
theorem EvO.ev {e : Expr} {xs : List V} (h : EvO g n kn ρ e xs) : Ev g n kn ρ e (.own xs) := fun F τ H s ok st =>
  wpAny_mono (h F τ H s ok st) (fun v s₁ ⟨H₁, u1, _, st1⟩ => ⟨H₁, u1, st1⟩) fun _ _ e => e
theorem St.freezeTopU {F : Fx} {ρ τ H s a xs} (st : St F ρ ((.ref a, .own xs) :: τ) H s) : ∃ H', Le H H' ∧ (∀ b, H' b ≠ none → H b ≠ none ∨ b = a) ∧ St F ρ ((.ref a, .fz (.list xs)) :: τ) H' s := by
  obtain ⟨a', items, ea, ⟨n, ha⟩, d⟩ := st.topDen
  cases ea
  obtain ⟨σ, e, vs⟩ := st.vars
  obtain ⟨h1, h2, _, g⟩ := vs.good.freeze ha d
  refine ⟨_, addH_le _ h1, fun b hb => ?_, st.freezeAt ha h1 h2 ⟨σ, e, vs.names, vs.stored, g⟩⟩
  by_cases q : b = a
  · subst q; exact .inr rfl
  · rw [addH_ne q] at hb; exact .inl hb
theorem EvO.fz {e : Expr} {xs : List V} (h : EvO g n kn ρ e xs) : Ev g n kn ρ e (.fz (.list xs)) := by
  intro F τ H s ok st
  refine wpAny_mono (h F τ H s ok st) (fun v s₁ h => ?_) fun _ _ e => e
  obtain ⟨H₁, u1, ⟨a, rfl, hn⟩, st1⟩ := h
  obtain ⟨H₂, l2, hn2, st2⟩ := st1.freezeTopU
  refine ⟨H₂, ⟨u1.sub.trans l2, u1.keep, fun b hb => ?_⟩, st2⟩
  rcases hn2 b hb with q | q
  · exact u1.new b q
  · subst q; exact .inr hn
theorem Up.fresh {H H' : PH} {s s' : Shared} (u : Up H s H' s') : s.heap.get? s'.heap.objs.size = none := by
  cases q : s.heap.get? s'.heap.objs.size with
  | none => rfl
  | some o => have := u.keep _ _ q; rw [get_size_none] at this; cases this
/-- a list display -/
theorem EvO_list {es : List Expr} {p : Pos} {xs : List V} (h : EvF g n kn ρ es xs) (hz : xs.length ≤ 1000 := by exact Nat.le_of_ble_eq_true rfl) : EvO g n kn ρ (.List es p) xs := by
  intro F τ H s ok st
  refine wpAny_List (wpAny_mono (h p F τ H s ok st) (fun vs s₁ h => ?_) fun _ _ e => e)
  obtain ⟨H₁, u1, hl, st1⟩ := h
  have hl' : vs.length = xs.length := by simpa using hl
  refine ⟨by rw [hl', sizeLine_eq]; omega, ?_⟩
  have d := st1.denL hl
  exact ⟨_, u1.trans (Up.id (push_le _ _)), ⟨_, rfl, u1.fresh⟩, st1.popN.allocPriv (listO vs 0) rfl (.own xs) rfl ⟨_, vs, rfl, ⟨0, Heap.get?_push_size _ rfl⟩, d⟩⟩

theorem Ns_fun {h : Heap} {a m m'} (x : h.Ns a m) (y : h.Ns a m') (n : Str) : m n = m' n := by
  obtain ⟨o, es, ep, ho, hd, _, hf⟩ := x
  obtain ⟨o', es', ep', ho', hd', _, hf'⟩ := y
  rw [ho] at ho'; cases ho'
  rw [hd] at hd'; cases hd'
  rw [← hf, hf']
theorem Stored.fun_ {env : Env} {h : Heap} {x v v'} (a : Stored env h x v) (b : Stored env h x v') : v = v' := by
  rcases a with ⟨k, m, hm, e⟩ | ⟨k, c, hl, o, ho, hd⟩ <;> rcases b with ⟨k', m', hm', e'⟩ | ⟨k', c', hl', o', ho', hd'⟩
  · have := Ns_fun hm hm' x
    rw [e, e'] at this
    exact Option.some.inj this
  · rw [k] at k'; cases k'
  · rw [k] at k'; cases k'
  · rw [hl] at hl'; cases hl'
    rw [ho] at ho'; cases ho'
    rw [hd] at hd'; cases hd'; rfl

theorem isL.isList {h : Heap} {a : Addr} {items : List Value} (x : isL h.get? a items) : h.IsList a items.toArray := let ⟨n, e⟩ := x; ⟨_, e, rfl, n, rfl⟩
theorem isT.isTup {h : Heap} {a : Addr} {items : List Value} (x : isT h.get? a items) : IsTup h a items.toArray := let ⟨n, e⟩ := x; ⟨_, e, rfl, n, rfl⟩
theorem den_list {H : PH} {xs : List V} {v : Value} (d : Den H (.list xs) v) : ∃ a items, v = .ref a ∧ isL H a items ∧ DenL H xs items := by simpa only [Den] using d
theorem den_tuple {H : PH} {xs : List V} {v : Value} (d : Den H (.tuple xs) v) : ∃ a items, v = .ref a ∧ isT H a items ∧ DenL H xs items := by simpa only [Den] using d
theorem seqIdx {k : Int} {n : Nat} (h0 : 0 ≤ k) (h1 : k < n) : seqIndex? k n = some k.toNat := seqIndex_of h0 h1

/-- an item of a frozen list, at a place within it -/
theorem Ev_item {v i : Expr} {p : Pos} {xs : List V} {k : Int} {y : V} (h1 : Ev g n kn ρ v (.fz (.list xs))) (h2 : Ev g n kn ρ i (.fz (.int k))) (h0 : 0 ≤ k) (hfit : k < 2 ^ 63) (hx : xs[k.toNat]? = some y)
    (hs : ∀ o i', subscripted i false o i' = operate [o, i'] (getItem o i') := by intros; with_unfolding_all rfl) : Ev g n kn ρ (.Subscript v i p) (.fz y) := by
  intro F τ H s ok st
  refine Subscript_ (wpAny_mono (h1 F τ H s ok st) (fun o s₁ h => ?_) fun _ _ e => e)
  obtain ⟨H₁, u1, st1⟩ := h
  refine wpAny_mono (h2 F _ H₁ s₁ ok st1) (fun u s₂ h => ?_) fun _ _ e => e
  obtain ⟨H₂, u2, st2⟩ := h
  obtain ⟨t, rfl⟩ := den_int st2.topFz
  obtain ⟨a, items, rfl, hl, hd⟩ := den_list st2.pop.topFz
  obtain ⟨w, hw, dw⟩ := hd.get _ _ hx
  have hL := (hl.mono st2.le).isList
  exact tail_any hL.typeIs slot_list_getitem.lookup (wpAny_getItem_list hL h0 hfit (by simpa using hw) ⟨H₂, u1.trans u2, st2.pop.pop.push dw⟩) (hs _ _)
/-- .. from behind -/
theorem Ev_itemNeg {v i : Expr} {p : Pos} {xs : List V} {k : Int} {y : V} (h1 : Ev g n kn ρ v (.fz (.list xs))) (h2 : Ev g n kn ρ i (.fz (.int k))) (h0 : k < 0) (hlo : -(xs.length : Int) ≤ k) (hfit : -(2 ^ 63) ≤ k) (hx : xs[(k + xs.length).toNat]? = some y)
    (hs : ∀ o i', subscripted i false o i' = operate [o, i'] (getItem o i') := by intros; with_unfolding_all rfl) : Ev g n kn ρ (.Subscript v i p) (.fz y) := by
  intro F τ H s ok st
  refine Subscript_ (wpAny_mono (h1 F τ H s ok st) (fun o s₁ h => ?_) fun _ _ e => e)
  obtain ⟨H₁, u1, st1⟩ := h
  refine wpAny_mono (h2 F _ H₁ s₁ ok st1) (fun u s₂ h => ?_) fun _ _ e => e
  obtain ⟨H₂, u2, st2⟩ := h
  obtain ⟨t, rfl⟩ := den_int st2.topFz
  obtain ⟨a, items, rfl, hl, hd⟩ := den_list st2.pop.topFz
  obtain ⟨w, hw, dw⟩ := hd.get _ _ hx
  have hL := (hl.mono st2.le).isList
  have e : items.toArray.size = xs.length := by rw [List.size_toArray, hd.length]
  exact tail_any hL.typeIs slot_list_getitem.lookup (wpAny_getItem_list_neg hL h0 (by rw [e]; exact hlo) hfit (by rw [e]; simpa using hw) ⟨H₂, u1.trans u2, st2.pop.pop.push dw⟩) (hs _ _)
/-- an item of a tuple -/
theorem Ev_itemT {v i : Expr} {p : Pos} {xs : List V} {k : Int} {y : V} (h1 : Ev g n kn ρ v (.fz (.tuple xs))) (h2 : Ev g n kn ρ i (.fz (.int k))) (h0 : 0 ≤ k) (hfit : k < 2 ^ 63) (hx : xs[k.toNat]? = some y)
    (hs : ∀ o i', subscripted i false o i' = operate [o, i'] (getItem o i') := by intros; with_unfolding_all rfl) : Ev g n kn ρ (.Subscript v i p) (.fz y) := by
  intro F τ H s ok st
  refine Subscript_ (wpAny_mono (h1 F τ H s ok st) (fun o s₁ h => ?_) fun _ _ e => e)
  obtain ⟨H₁, u1, st1⟩ := h
  refine wpAny_mono (h2 F _ H₁ s₁ ok st1) (fun u s₂ h => ?_) fun _ _ e => e
  obtain ⟨H₂, u2, st2⟩ := h
  obtain ⟨t, rfl⟩ := den_int st2.topFz
  obtain ⟨a, items, rfl, hl, hd⟩ := den_tuple st2.pop.topFz
  obtain ⟨w, hw, dw⟩ := hd.get _ _ hx
  have hL := (hl.mono st2.le).isTup
  have hk : k < items.length := by
    obtain ⟨q, _⟩ := List.getElem?_eq_some_iff.mp hw
    omega
  exact tail_any hL.typeIs slot_tuple_getitem.lookup (PyProof.Rows.getItem_tuple hL (by omega) hfit (by rw [List.size_toArray]; exact seqIdx h0 hk) (by simpa using hw) ⟨H₂, u1.trans u2, st2.pop.pop.push dw⟩) (hs _ _)
/-- an item of a list of the frame's own -/
theorem Ev_itemOwn {x : Str} {q : Pos} {i : Expr} {p : Pos} {xs : List V} {k : Int} {y : V} (h1 : (x, B.own xs) ∈ ρ) (h2 : Ev g n kn ρ i (.fz (.int k))) (h0 : 0 ≤ k) (hfit : k < 2 ^ 63) (hx : xs[k.toNat]? = some y)
    (hs : ∀ o i', subscripted i false o i' = operate [o, i'] (getItem o i') := by intros; with_unfolding_all rfl) (hd : (x == ("__debug__" : Str)) = false := by decide) : Ev g n kn ρ (.Subscript (.Name x q) i p) (.fz y) := by
  intro F τ H s ok st
  obtain ⟨u, hst, _⟩ := st.look h1
  refine Subscript_ (wpAny_Name ?_ hd)
  suffices hh : ∀ o, o = u → wpAny (model g.prog g.w) F.A (eval i F.env) (fun i₁ s₂ => wpAny (model g.prog g.w) F.A (subscriptTail (.Name x q) i o i₁) (fun v s' => ∃ H', Up H s H' s' ∧ St F ρ ((v, .fz y) :: τ) H' s') NoE s₂) NoE s by
    rcases hst with ⟨k, m, hm, e⟩ | ⟨k, c, hl, i⟩
    · exact wpAny_loadName_local ok.kind k hm e (hh _ rfl)
    · exact wpAny_loadName_cell ok.kind k hl i (hh _ rfl)
  intro o ho
  subst ho
  refine wpAny_mono (h2 F _ H s ok st) (fun w s₂ h => ?_) fun _ _ e => e
  obtain ⟨H₂, u2, st2⟩ := h
  obtain ⟨t, rfl⟩ := den_int st2.topFz
  obtain ⟨o', hst', a, items, e, hl, hdl⟩ := st2.look h1
  cases (hst.mono u2.keep).fun_ hst'
  subst e
  obtain ⟨w, hw, dw⟩ := hdl.get _ _ hx
  have hL := hl.isList
  exact tail_any hL.typeIs slot_list_getitem.lookup (wpAny_getItem_list hL h0 hfit (by simpa using hw) ⟨H₂, u2, st2.pop.push dw⟩) (hs _ _)

/-- a part of a slice -/
inductive EvPart (g : Gl) (n : Nat) (kn : Kn) (ρ : List (Str × B)) : Option Expr → Option Int → Prop
  | none : EvPart g n kn ρ none none
  | some {e k} : Ev g n kn ρ e (.fz (.int k)) → EvPart g n kn ρ (some e) (some k)
def vslice (xs : List V) (lo hi : Option Int) : List V := (xs.drop (lo.elim 0 (clipAt xs.length))).take (hi.elim xs.length (clipAt xs.length) - lo.elim 0 (clipAt xs.length))

theorem EvPart.run {F : Fx} {τ H s} {o : Option Expr} {k : Option Int} (h : EvPart g n kn ρ o k) (ok : Okk g n kn F) (st : St F ρ τ H s) :
    wpAny (model g.prog g.w) F.A (evalPart o F.env) (fun v s' => IsPart v k ∧ ∃ H', Up H s H' s' ∧ St F ρ τ H' s') NoE s := by
  cases h with
  | none => exact wpAny_pure ⟨.none, H, Up.id (Le.refl _), st⟩
  | some h =>
    refine wpAny_mono (h F τ H s ok st) (fun v s₁ h => ?_) fun _ _ e => e
    obtain ⟨H₁, u1, st1⟩ := h
    obtain ⟨t, rfl⟩ := den_int st1.topFz
    exact ⟨.int _ _, H₁, u1, st1.pop⟩

theorem EvO_slice {v : Expr} {lower upper : Option Expr} {p pos : Pos} {xs : List V} {lo hi : Option Int} (h1 : Ev g n kn ρ v (.fz (.list xs))) (h2 : EvPart g n kn ρ lower lo) (h3 : EvPart g n kn ρ upper hi) (hz : xs.length ≤ 1000)
    (ht : ∀ o r, letTemporaryGo v o r = pure () := by intro _ _; rfl) : EvO g n kn ρ (.Subscript v (.Slice lower upper none p) pos) (vslice xs lo hi) := by
  intro F τ H s ok st
  refine wpAny_Subscript_list_slice (wpAny_mono (h1 F τ H s ok st) (fun o s₁ h => ?_) fun _ _ e => e) ht
  obtain ⟨H₁, u1, st1⟩ := h
  refine wpAny_mono (h2.run ok st1) (fun vl s₂ h => ?_) fun _ _ e => e
  obtain ⟨pl, H₂, u2, st2⟩ := h
  refine wpAny_mono (h3.run ok st2) (fun vu s₃ h => ?_) fun _ _ e => e
  obtain ⟨pu, H₃, u3, st3⟩ := h
  obtain ⟨a, items, rfl, hl, hd⟩ := den_list st3.topFz
  have hL := (hl.mono st3.le).isList
  have e1 : items.toArray.size = xs.length := by rw [List.size_toArray, hd.length]
  refine ⟨a, items.toArray, lo, hi, rfl, hL, by rw [e1, sizeLine_eq]; omega, pl, pu, H₃, (u1.trans (u2.trans u3)).trans (Up.id ((push_le _ _).trans (push_le _ _))), ⟨_, rfl, ?_⟩, ?_⟩
  · cases q : s.heap.get? (s₃.heap.objs.size + 1) with
    | none => rfl
    | some o =>
      exact absurd (Heap.lt_size ((u1.trans (u2.trans u3)).keep _ _ q)) (Nat.not_lt.mpr (Nat.le_succ _))
  have st4 : St F ρ τ H₃ { s₃ with heap := s₃.heap.push { cls := .type "slice", data := .fields #[vl, vu, .none] } } := st3.pop.ext (push_le _ _)
  have e2 : s₃.heap.objs.size + 1 = (s₃.heap.push { cls := .type "slice", data := .fields #[vl, vu, .none] }).objs.size := (Heap.size_push ..).symm
  rw [e2]
  rw [slicePick_plain]
  have e3 : (items.toArray.toList) = items := rfl
  rw [e3, e1]
  refine st4.allocPriv (listO _ 0) rfl (.own _) rfl ⟨_, _, rfl, ⟨0, Heap.get?_push_size _ rfl⟩, ?_⟩
  exact (hd.drop _).take _

/-- what may be called -/
inductive Callable (g : Gl) : Value → Prop
  | fn {a o fd} : g.base.get? a = some o → o.data = .func fd → Callable g (.ref a)
  | builtin {id} : Callable g (.builtin id)
  | type {T} : Callable g (.type T)

theorem callWith_any {F : Fx} {τ H s} {f : Value} {e : Expr} {es : List Expr} {pos : Pos} {Q : Value → Shared → Prop} (hc : Callable g f) (ok : Okk g n kn F) (st : St F ρ τ H s)
    (h : wpAny (model g.prog g.w) F.A (spliced (backTo pos (starEach (e :: es) F.env))) (fun vs s₁ => Le g.base.get? s₁.heap.get? ∧ wpAny (model g.prog g.w) F.A (call f vs) Q NoE s₁) NoE s)
    (he : starEach (e :: es) F.env = (false, eval e F.env) :: starEach es F.env) (hp : (backTo pos (starEach es F.env)).any (·.1) = false) :
    wpAny (model g.prog g.w) F.A (callWith pos f [] (backTo pos (starEach (e :: es) F.env)) []) Q NoE s := by
  cases hc with
  | fn ho hd => exact callWith_def hd (wpAny_mono h (fun vs s₁ h => ⟨h.1 _ _ ho, h.2⟩) fun _ _ e => e) he
  | builtin =>
    rw [he] at h ⊢
    exact callWith_builtin (by show (false || (backTo pos (starEach es F.env)).any (·.1)) = false; rw [hp]; rfl) (Calls.evalArgs_plain (wpAny_mono h (fun vs s₁ h => h.2) fun _ _ e => e))
  | type => exact PySem.Pv.callWith_type1 (wpAny_mono h (fun vs s₁ h => h.2) fun _ _ e => e) he hp

/-- a call by its contract -/
theorem Ev_call {f e : Expr} {es : List Expr} {p : Pos} {fv : Value} {x : V} {xs : List V} {y : V} (h1 : Ev g n kn ρ f (.fz (.raw fv))) (h2 : EvF g n kn ρ (e :: es) (x :: xs)) (hc : Callable g fv) (h3 : Fn g n fv (x :: xs) y)
    (hcall : ∀ env, eval (.Call f (e :: es) [] p) env = (do callWith p (← eval f env) [] (backTo p (starEach (e :: es) env)) (backToKw p (keywordEach [] env))) := by intro _; rfl)
    (he : ∀ env, starEach (e :: es) env = (false, eval e env) :: starEach es env := by intro _; rfl) (hp : ∀ env, (backTo p (starEach es env)).any (·.1) = false := by intro _; rfl) :
    Ev g n kn ρ (.Call f (e :: es) [] p) (.fz y) := by
  intro F τ H s ok st
  refine Call_ (wpAny_mono (h1 F τ H s ok st) (fun v s₁ h => ?_) fun _ _ e => e) (hcall _)
  obtain ⟨H₁, u1, st1⟩ := h
  cases den_raw st1.topFz
  refine callWith_any hc ok st1 (wpAny_mono (h2 p F _ H₁ s₁ ok st1.pop) (fun vs s₂ h => ?_) fun _ _ e => e) (he _) (hp _)
  obtain ⟨H₂, u2, hl, st2⟩ := h
  refine ⟨ok.baseLe st2, wpAny_mono (h3 F.A H₂ s₂ vs ok.gok ok.room (ok.baseH st2) st2.le (st2.denL hl)) (fun v s₃ h => ?_) fun _ _ e => e⟩
  obtain ⟨H₃, cp, d⟩ := h
  exact ⟨H₃, (u1.trans u2).trans cp.up, (st2.popN.call cp).push d⟩

-- statements
theorem Exs_nil : Exs g n kn ρ [] .next ρ := fun F τ H s ok st => wpAny_execs_nil ⟨H, Le.refl H, st⟩
theorem Exs_cons {st : Stmt} {sts : List Stmt} {f : Fl} (h1 : Ex g n kn ρ st .next ρ₁) (h2 : Exs g n kn ρ₁ sts f ρ₂) : Exs g n kn ρ (st :: sts) f ρ₂ := by
  intro F τ H s ok st
  refine wpAny_execs_cons (wpAny_mono (h1 F τ H s ok st) (fun fl s₁ h => ?_) fun _ _ e => e)
  obtain ⟨H₁, l1, p⟩ := h
  cases fl with
  | next => exact wpAny_mono (h2 F τ H₁ s₁ ok p) (fun fl s₂ ⟨H₂, l2, p⟩ => ⟨H₂, l1.trans l2, p⟩) fun _ _ e => e
  | brk => exact p.elim
  | cont => exact p.elim
  | ret v => exact p.elim
theorem Exs_ret {st : Stmt} {sts : List Stmt} {b : B} (h1 : Ex g n kn ρ st (.ret b) ρ₁) : Exs g n kn ρ (st :: sts) (.ret b) ρ₁ := by
  intro F τ H s ok st
  refine wpAny_execs_cons (wpAny_mono (h1 F τ H s ok st) (fun fl s₁ h => ?_) fun _ _ e => e)
  obtain ⟨H₁, l1, p⟩ := h
  cases fl with
  | next => exact p.elim
  | brk => exact p.elim
  | cont => exact p.elim
  | ret v => exact ⟨H₁, l1, p⟩
theorem Exs_freeze {sts : List Stmt} {f : Fl} {x : Str} {xs : List V} (hx : (x, B.own xs) ∈ ρ) (hp : Put x (.fz (.list xs)) ρ ρ₁) (h : Exs g n kn ρ₁ sts f ρ₂) : Exs g n kn ρ sts f ρ₂ := by
  intro F τ H s ok st
  obtain ⟨H₁, l1, st1⟩ := st.freezeName hx hp
  exact wpAny_mono (h F τ H₁ s ok st1) (fun fl s₂ ⟨H₂, l2, p⟩ => ⟨H₂, l1.trans l2, p⟩) fun _ _ e => e

theorem Ex_return {e : Expr} {p : Pos} {b : B} (h : Ev g n kn ρ e b) : Ex g n kn ρ (.Return (some e) p) (.ret b) ρ := by
  intro F τ H s ok st
  refine wpAny_Return_some (wpAny_mono (h F τ H s ok st) (fun v s₁ h => ?_) fun _ _ e => e)
  obtain ⟨H₁, u1, st1⟩ := h
  exact ⟨H₁, u1.sub, st1⟩
theorem Ex_if {t : Expr} {a b : List Stmt} {p : Pos} {c : Bool} {f : Fl} (h1 : Tr g n kn ρ t c) (h2 : c = true → Exs g n kn ρ a f ρ₁) (h3 : c = false → Exs g n kn ρ b f ρ₁) : Ex g n kn ρ (.If t a b p) f ρ₁ := by
  intro F τ H s ok st
  refine wpAny_If (wpAny_mono (h1 F τ H s ok st) (fun c s₁ h => ?_) fun _ _ e => e)
  obtain ⟨rfl, H₁, u1, st1⟩ := h
  cases c with
  | true => exact wpAny_mono (h2 rfl F τ H₁ s₁ ok st1) (fun v s₂ ⟨H₂, l2, st2⟩ => ⟨H₂, u1.sub.trans l2, st2⟩) fun _ _ e => e
  | false => exact wpAny_mono (h3 rfl F τ H₁ s₁ ok st1) (fun v s₂ ⟨H₂, l2, st2⟩ => ⟨H₂, u1.sub.trans l2, st2⟩) fun _ _ e => e

/-- a name is stored: anew, or in its place -/
inductive Sto (kn : Kn) (x : Str) (b : B) : List (Str × B) → List (Str × B) → Prop
  | put {r r' : List (Str × B)} : Put x b r r' → Sto kn x b r r'
  | new {r : List (Str × B)} : NewIn x r → Sto kn x b r ((x, b) :: r)
def keepsK (kn : Kn) (x : Str) : Bool := match kn.lookup x with
  | some .local => true
  | some .cell => (kn.lookup (".0" : Str)).isNone
  | _ => false
theorem keeps_of {F : Fx} (ok : Okk g n kn F) {x : Str} (h : keepsK kn x = true) : Keeps F x := by
  unfold keepsK at h
  split at h
  · rename_i q; exact .inl (by rw [ok.kindOf]; exact q)
  · rename_i q; exact .inr ⟨by rw [ok.kindOf]; exact q, ok.owns (Option.isNone_iff_eq_none.mp h) x q⟩
  · cases h
theorem Sto.run {F : Fx} {τ H s x v b} {A : Around} {Q : Unit → Shared → Prop} (h : Sto kn x b ρ ρ₁) (ok : Okk g n kn F) (hk : Keeps F x) (st : St F ρ ((v, b) :: τ) H s) (hq : ∀ s', St F ρ₁ τ H s' → Q () s') :
    wpAny (model g.prog g.w) A (storeName F.env x v) Q NoE s := by
  cases h with
  | put p => exact store_put ok.toOk st hk p hq
  | new p => exact store_new ok.toOk st hk p hq

theorem Ex_assign {x : Str} {p' p : Pos} {e : Expr} {b : B} (h : Ev g n kn ρ e b) (hs : Sto kn x b ρ ρ₁) (hk : keepsK kn x = true := by rfl)
    (hw : ∀ env, swapsWith e (some (.Name x p')) p.line env = pure false := by intro _; rfl) : Ex g n kn ρ (.Assign [.Name x p'] e p) .next ρ₁ := by
  intro F τ H s ok st
  refine wpAny_Assign_Name (wpAny_mono (h F τ H s ok st) (fun v s₁ h => ?_) fun _ _ e => e) (hw _)
  obtain ⟨H₁, u1, st1⟩ := h
  exact hs.run ok (keeps_of ok hk) st1 fun s' st' => ⟨H₁, u1.sub, st'⟩

def IntIop (g : Gl) (op : Operator) (a b c : Int) : Prop :=
  ∀ (A : Around) (s : Shared) (t u : Tok) (Q E : Value → Shared → Prop), (∀ k, Q (.int c k) { s with toks := s.toks + 1 }) → wpAny (model g.prog g.w) A (inplaceOp op (.int a t) (.int b u)) Q E s
theorem iop_add {a b : Int} : IntIop g .Add a b (a + b) := fun A s t u Q E h => P.iadd_int (h _)
theorem iop_sub {a b : Int} : IntIop g .Sub a b (a - b) := fun A s t u Q E h => P.isub_int (h _)
theorem iop_mod {a b : Int} (hb : b ≠ 0) : IntIop g .Mod a b (a.fmod b) := fun A s t u Q E h => imod_int hb (h _)
theorem iop_or {a b : Int} : IntIop g .BitOr a b (Builtin.bitOr a b) := fun A s t u Q E h => ior_int (h _)
theorem iop_shr {a b : Int} (hn : 0 ≤ b) : IntIop g .RShift a b (a.fdiv (2 ^ b.toNat)) := fun A s t u Q E h => irshift_int hn (h _)

theorem Ex_aug {x : Str} {p' p : Pos} {op : Operator} {e : Expr} {a b c : Int} (hx : (x, B.fz (.int a)) ∈ ρ) (h : Ev g n kn ρ e (.fz (.int b))) (ho : IntIop g op a b c) (hs : Sto kn x (.fz (.int c)) ρ ρ₁) (hk : keepsK kn x = true := by rfl) :
    Ex g n kn ρ (.AugAssign (.Name x p') op e p) .next ρ₁ := by
  intro F τ H s ok st
  refine wpAny_AugAssign_Name ?_
  obtain ⟨u, hst, d⟩ := st.look hx
  obtain ⟨t, rfl⟩ := den_int (H := H) d
  suffices hh : wpAny (model g.prog g.w) F.A (eval e F.env) (fun v s₂ => wpAny (model g.prog g.w) F.A (inplaceOp op (.int a t) v) (fun r s₃ => wpAny (model g.prog g.w) F.A (storeName F.env x r) (fun _ s' => ∃ H', Le H H' ∧ PostX F τ H' s' ρ₁ .next .next) NoE s₃) NoE s₂) NoE s by
    rcases hst with ⟨k, m, hm, e⟩ | ⟨k, c, hl, i⟩
    · exact wpAny_loadName_local ok.kind k hm e hh
    · exact wpAny_loadName_cell ok.kind k hl i hh
  refine wpAny_mono (h F τ H s ok st) (fun v s₁ h => ?_) fun _ _ e => e
  obtain ⟨H₁, u1, st1⟩ := h
  obtain ⟨t1, rfl⟩ := den_int st1.topFz
  refine ho F.A s₁ t t1 _ _ fun k => ?_
  exact hs.run ok (keeps_of ok hk) ((st1.pop.toks _).push (mk_int (t := k))) fun s' st' => ⟨H₁, u1.sub, st'⟩

end Mine
namespace Mine
variable {g : Gl} {n : Nat} {kn : Kn} {ρ ρ' ρ₁ ρ₂ : List (Str × B)}

-- a def's contract by its body
theorem lookup_rev {x : Str} {v : Value} : ∀ {l : List (Str × Value)}, (l.map (·.1)).Nodup → (x, v) ∈ l → l.reverse.lookup x = some v := by
  intro l hn hm
  have hr : (l.reverse.map (·.1)).Nodup := by rw [List.map_reverse]; exact (List.reverse_perm _).nodup_iff.mpr hn
  have hm' : (x, v) ∈ l.reverse := List.mem_reverse.mpr hm
  clear hn hm
  generalize l.reverse = r at hr hm'
  induction r with
  | nil => cases hm'
  | cons p r ih =>
    obtain ⟨y, w⟩ := p
    rw [List.lookup_cons]
    rw [List.map_cons, List.nodup_cons] at hr
    rcases List.mem_cons.mp hm' with e | hm2
    · cases e; simp
    · have : (x == y) = false := by
        refine beq_eq_false_iff_ne.mpr fun e => hr.1 ?_
        rw [← e]
        exact List.mem_map.mpr ⟨_, hm2, rfl⟩
      rw [this]
      exact ih hr.2 hm2

def bindV (xs : List Str) (ys : List V) : List (Str × B) := xs.zip (ys.map B.fz)

theorem sig_zip : ∀ {names : List Str} {xs : List V} {vals : List Value}, vals.length = xs.length → bindsOf (names.zip (vals.zip (xs.map B.fz))) = bindV names xs
  | [], _, _, _ => rfl
  | _ :: _, [], [], _ => rfl
  | _ :: _, [], _ :: _, h => by simp at h
  | _ :: _, _ :: _, [], h => by simp at h
  | a :: names, x :: xs, v :: vals, h => by
    have ih := sig_zip (names := names) (xs := xs) (vals := vals) (by simpa using h)
    unfold bindV bindsOf at ih ⊢
    simp only [List.map_cons, List.zip_cons_cons, ih]

theorem privs_allFz : ∀ {names : List Str} {xs : List V} {vals : List Value}, privs ((names.zip (vals.zip (xs.map B.fz))).map (·.2)) = []
  | [], _, _ => rfl
  | _ :: _, _, [] => rfl
  | _ :: _, [], _ :: _ => rfl
  | a :: names, x :: xs, v :: vals => by
    have ih := privs_allFz (names := names) (xs := xs) (vals := vals)
    simp only [List.map_cons, List.zip_cons_cons]
    rw [privs_fz]; exact ih
theorem mem_zip3 {H : PH} : ∀ {names : List Str} {xs : List V} {vals : List Value} {e : Str × Value × B}, DenL H xs vals → e ∈ names.zip (vals.zip (xs.map B.fz)) → (e.1, e.2.1) ∈ names.zip vals ∧ ∃ x, e.2.2 = .fz x ∧ Den H x e.2.1
  | [], _, _, _, _, h => by simp at h
  | _ :: _, [], vals, _, d, h => by rw [DenL.nil_iff.mp d] at h; simp at h
  | a :: names, x :: xs, vals, e, d, h => by
    obtain ⟨v, r, rfl, d1, d2⟩ := d.inv
    simp only [List.map_cons, List.zip_cons_cons] at h ⊢
    rcases List.mem_cons.mp h with rfl | h
    · exact ⟨.head _, x, rfl, d1⟩
    · obtain ⟨h1, h2⟩ := mem_zip3 d2 h
      exact ⟨.tail _ h1, h2⟩
theorem zip_fst : ∀ {names : List Str} {xs : List V} {vals : List Value}, vals.length = xs.length → names.length = xs.length → (names.zip (vals.zip (xs.map B.fz))).map (·.1) = names
  | [], _, _, _, _ => rfl
  | _ :: _, [], _, _, h => by simp at h
  | _ :: _, _ :: _, [], h, _ => by simp at h
  | a :: names, x :: xs, v :: vals, h, h' => by
    have ih := zip_fst (names := names) (xs := xs) (vals := vals) (by simpa using h) (by simpa using h')
    simp only [List.map_cons, List.zip_cons_cons, ih]

/-- the frame of a plain def at its start -/
theorem start_plain {A : Around} {s : Shared} {H : PH} {env : Env} {h₁ : Heap} {tk : Nat} {names : List Str} {xs : List V} {vals : List Value}
    (hL : env.locals = s.heap.objs.size) (hc : env.cells = []) (le : Le H s.heap.get?) (d : DenL H xs vals) (hl : names.length = xs.length) (hn : names.Nodup) (hk : ∀ x ∈ names, env.kindOf x = some .local)
    (hns : h₁.Ns s.heap.objs.size (fun x => (names.zip vals).reverse.lookup x)) (k : Le s.heap.get? h₁.get?) :
    St { env, A, s₀ := s, H₀ := H, store := [s.heap.objs.size] } (bindV names xs) [] H { s with heap := h₁, toks := tk } where
  le := le.trans k
  keep := k
  sub := Le.refl H
  new := fun b hb => .inl hb
  gens := rfl
  drawn := rfl
  os := rfl
  ns := ⟨_, by show h₁.Ns env.locals _; rw [hL]; exact hns⟩
  cells := fun x c e => by
    have e' : env.cells.lookup x = some c := e
    rw [hc] at e'; cases e'
  vars := by
    have hlen : vals.length = xs.length := d.length
    refine ⟨names.zip (vals.zip (xs.map B.fz)), sig_zip hlen, ?_, fun e he => ?_, ?_⟩
    · rw [zip_fst hlen hl]; exact hn
    · obtain ⟨m1, x, e1, d1⟩ := mem_zip3 d he
      refine .inl ⟨hk _ (List.of_mem_zip m1).1, _, by show h₁.Ns env.locals _; rw [hL]; exact hns, ?_⟩
      have hf : ((names.zip vals).map (·.1)) = names := List.map_fst_zip (by omega)
      exact lookup_rev (by rw [hf]; exact hn) m1
    · refine ⟨fun p hp => ?_, ?_, fun a ha => ?_⟩
      · rw [List.append_nil] at hp
        obtain ⟨e, he, rfl⟩ := List.mem_map.mp hp
        obtain ⟨m1, x, e1, d1⟩ := mem_zip3 d he
        obtain ⟨y, v, b⟩ := e
        simp only at e1 d1
        subst e1
        exact d1
      · rw [List.append_nil, privs_allFz]; simp
      · rw [List.append_nil, privs_allFz, List.append_nil] at ha
        have ha' : a = s.heap.objs.size := List.mem_singleton.mp ha
        subst ha'
        refine ⟨?_, get_size_none _, ?_⟩
        · cases q : H s.heap.objs.size with
          | none => rfl
          | some o' => have := le _ _ q; rw [get_size_none] at this; cases this
        · obtain ⟨o, es, ep, ho, _⟩ := hns
          show (h₁.get? s.heap.objs.size).isSome = true
          rw [ho]; rfl

theorem post_call {F : Fx} {τ H' s' y v} (st : St F ρ ((v, .fz y) :: τ) H' s') : CallPost F.H₀ F.s₀ H' s' ∧ Den H' y v :=
  ⟨⟨st.sub, st.le, st.keep, st.new, st.gens, st.drawn, st.os⟩, st.topFz⟩
theorem post_call0 {F : Fx} {τ H' s'} (st : St F ρ τ H' s') : CallPost F.H₀ F.s₀ H' s' :=
  ⟨st.sub, st.le, st.keep, st.new, st.gens, st.drawn, st.os⟩

/-- a frozen result, or none at the body's end -/
inductive Gives (y : V) : Fl → Prop
  | ret : Gives y (.ret (.fz y))
  | none : y = .none → Gives y .next

theorem Fn_of {d : DefRec} {names : List Str} {xs : List V} {y : V} {f : Fl} (hd : d ∈ defsOf) {a : Addr} (ha : g.mg d.name = some (.ref a))
    (hb : ∀ pm code doc vals, vals.length = xs.length → bindArgs (docDef d.name d.params d.body d.scope pm code doc) ⟨vals, []⟩ = pure (names.zip vals))
    (hl : names.length = xs.length) (hn : names.Nodup) (hk : ∀ x ∈ names, d.scope.names.lookup x = some .local)
    (hbody : Exs g n d.scope.names (bindV names xs) d.body f ρ') (hy : Gives y f)
    (hco : d.scope.isCoroutine = false) (hgen : d.scope.isGenerator = false) (hkind : d.scope.kind = .function) (hcell : ∀ x ∈ d.scope.names, x.2 ≠ .cell) :
    Fn g (n + 1) (.ref a) xs y := by
  intro A H s vals go room base le den
  obtain ⟨a', o, pm, code, doc, hm, ho, hdat, hcd⟩ := go.fn d hd
  rw [ha] at hm
  cases hm
  have hbl : Le g.base.get? s.heap.get? := base.trans le
  refine wpAny_call ?_
  refine codeAny_call_def (by have := room.2.1; omega) (hbl _ _ ho) hdat (go.nolimit.keeps hbl) (hcd.keeps hbl) rfl (BindsTo.of_eq (hb pm code doc vals den.length)) hcell ?_ (fun h₁ hns k => ?_) hco hgen hkind
  · intro x hx
    exact hk _ (List.of_mem_zip hx).1
  · have st := start_plain (A := A.deeper (callEnv (docDef d.name d.params d.body d.scope pm code doc) s.heap.objs.size a)) (env := callEnv (docDef d.name d.params d.body d.scope pm code doc) s.heap.objs.size a) (tk := s.toks + (names.zip vals).length) rfl rfl le den hl hn hk hns k
    have hLn : H s.heap.objs.size = none := by
      cases q : H s.heap.objs.size with
      | none => rfl
      | some o' => have := le _ _ q; rw [get_size_none] at this; cases this
    have ok : Okk g n d.scope.names { env := callEnv (docDef d.name d.params d.body d.scope pm code doc) s.heap.objs.size a, A := A.deeper (callEnv (docDef d.name d.params d.body d.scope pm code doc) s.heap.objs.size a), s₀ := s, H₀ := H, store := [s.heap.objs.size] } := {
      kind := hkind
      locIn := .head _
      cellIn := fun x c e => nomatch e
      cellInj := fun x y c e => nomatch e
      cellNe := fun x c e => nomatch e
      gok := go
      room := room.deeper
      names := rfl
      globals := rfl
      builtins := rfl
      base := base
      h₀ := le
      owns := fun _ x hx => absurd rfl (hcell (x, .cell) (mem_of_lookup hx)) }
    refine wpAny_mono (hbody _ [] H _ ok st) (fun fl s' h => ?_) fun _ _ e => e.elim
    obtain ⟨H', l, p⟩ := h
    cases hy with
    | ret =>
      cases fl with
      | ret v => obtain ⟨cp, dn⟩ := post_call p; exact ⟨H', cp, dn⟩
      | next => exact p.elim
      | brk => exact p.elim
      | cont => exact p.elim
    | none e =>
      cases fl with
      | next => exact ⟨H', post_call0 p, by rw [e]; simp only [Den]⟩
      | ret v => exact p.elim
      | brk => exact p.elim
      | cont => exact p.elim

-- while
inductive WhileR (g : Gl) (n : Nat) (kn : Kn) (test : Expr) (body : List Stmt) : Nat → List (Str × B) → List (Str × B) → Prop
  | done {r : List (Str × B)} : Tr g n kn r test false → WhileR g n kn test body 0 r r
  | turn {m : Nat} {r r₁ r₂ : List (Str × B)} : Tr g n kn r test true → Exs g n kn r body .next r₁ → WhileR g n kn test body m r₁ r₂ → WhileR g n kn test body (m + 1) r r₂

theorem Ex_while {test : Expr} {body : List Stmt} {p : Pos} {m : Nat} (h : WhileR g n kn test body m ρ ρ₁) : Ex g n kn ρ (.While test body [] p) .next ρ₁ := by
  intro F τ H s ok st
  refine wpAny_While (codeAny_whileLoop (fun m s => ∃ ρ₂ H', WhileR g n kn test body m ρ₂ ρ₁ ∧ Le H H' ∧ St F ρ₂ τ H' s) (fun m s h => ?_) m ⟨ρ, H, h, Le.refl H, st⟩)
  obtain ⟨ρ₂, H', hw, l, st⟩ := h
  cases hw with
  | done ht =>
    refine wpAny_mono (ht F τ H' s ok st) (fun c s₁ h => ?_) fun _ _ e => e.elim
    obtain ⟨rfl, H₁, u1, st1⟩ := h
    exact wpAny_execs_nil ⟨H₁, l.trans u1.sub, st1⟩
  | turn ht hb hw =>
    refine wpAny_mono (ht F τ H' s ok st) (fun c s₁ h => ?_) fun _ _ e => e.elim
    obtain ⟨rfl, H₁, u1, st1⟩ := h
    refine wpAny_mono (hb F τ H₁ s₁ ok st1) (fun fl s₂ h => ?_) fun _ _ e => e.elim
    obtain ⟨H₂, l2, p⟩ := h
    cases fl with
    | next => exact ⟨_, Nat.lt_succ_self _, _, H₂, hw, l.trans (u1.sub.trans l2), p⟩
    | brk => exact p.elim
    | cont => exact p.elim
    | ret v => exact p.elim

end Mine
namespace Mine
variable {g : Gl} {n : Nat} {kn : Kn} {ρ ρ' ρ₁ ρ₂ : List (Str × B)}

theorem mem_store_privs {l : List (Value × B)} {a : Addr} {p : Value × B} (hb : isPriv p.2 = true) (e : p.1 = .ref a) (h : p ∈ l) : a ∈ privs l := by
  obtain ⟨v, b⟩ := p
  simp only at e hb
  subst e
  exact mem_privs hb h
theorem denB_some {H h : PH} {p : Value × B} {a : Addr} (hb : isPriv p.2 = true) (e : p.1 = .ref a) (d : DenB H h p) : (h a).isSome = true := by
  obtain ⟨v, b⟩ := p
  simp only at e
  subst e
  cases b with
  | fz x => cases hb
  | own xs => obtain ⟨c, items, e, ⟨n, l⟩, r⟩ := d; cases e; rw [l]; rfl
  | priv o => obtain ⟨c, e, l⟩ := d; cases e; rw [l]; rfl

theorem privs_mem : ∀ {l : List (Value × B)} {a : Addr}, a ∈ privs l → ∃ p ∈ l, isPriv p.2 = true ∧ p.1 = .ref a
  | [], _, h => nomatch h
  | (v, b) :: r, a, h => by
    have ih := @privs_mem r a
    have go : a ∈ privs r → ∃ p ∈ (v, b) :: r, isPriv p.2 = true ∧ p.1 = .ref a := fun h => by
      obtain ⟨p, hp, q⟩ := ih h; exact ⟨p, .tail _ hp, q⟩
    cases b <;> cases v <;> first
      | exact go h
      | (rcases List.mem_cons.mp h with e | h2
         · subst e; exact ⟨_, .head _, rfl, rfl⟩
         · exact go h2)

/-- the private objects at the stack's top change -/
theorem St.updG {F : Fx} (ok : F.Ok) {ρ τ H} {H' : PH} {s s' : Shared} {ι ι' : List (Value × B)} (st : St F ρ (ι ++ τ) H s) (hp : (privs ι').Sublist (privs ι))
    (hH : Le H H') (hnew : ∀ b o, H' b = some o → H b = some o ∨ (s.heap.get? b = none ∧ s'.heap.get? b = some o))
    (k : ∀ b o, b ∉ privs ι → s.heap.get? b = some o → s'.heap.get? b = some o) (d : ∀ p ∈ ι', DenB H' s'.heap.get? p)
    (e1 : s'.gens = s.gens := by rfl) (e2 : s'.drawn = s.drawn := by rfl) (e3 : s'.os = s.os := by rfl) : St F ρ (ι' ++ τ) H' s' := by
  obtain ⟨σ, e, vs⟩ := st.vars
  have hg := vs.good
  have off : ∀ a ∈ privs ι, a ∉ F.store ∧ H a = none ∧ F.s₀.heap.get? a = none ∧ a ∉ privs (σ.map (·.2)) ∧ a ∉ privs τ := by
    intro a ha
    have ha' : a ∈ privs (σ.map (·.2) ++ (ι ++ τ)) := by rw [privs_append, privs_append]; exact List.mem_append_right _ (List.mem_append_left _ ha)
    have o := hg.off a (List.mem_append_right _ ha')
    have nd := hg.nodup
    rw [privs_append, privs_append] at nd
    have n1 := List.nodup_append.mp nd
    have n2 := List.nodup_append.mp n1.2.1
    have n3 := List.nodup_append.mp n2.2.1
    exact ⟨fun q => n1.2.2 a q a (List.mem_append_right _ (List.mem_append_left _ ha)) rfl, o.1, o.2.1, fun q => n2.2.2 a q a (List.mem_append_left _ ha) rfl, fun q => n3.2.2 a ha a q rfl⟩
  have hL : F.env.locals ∉ privs ι := fun q => (off _ q).1 ok.locIn
  have hc : ∀ y c, F.env.cells.lookup y = some c → c ∉ privs ι := fun y c e q => by
    rcases ok.cellIn _ _ e with i | i
    · exact (off _ q).1 i
    · rw [(off _ q).2.2.1] at i; cases i
  have mo : ∀ x v, Stored F.env s.heap x v → Stored F.env s'.heap x v := by
    rintro x v (⟨e, m, ⟨o, es, ep, ho, r⟩, q⟩ | ⟨e, c, hl, ⟨o, ho, r⟩⟩)
    · exact .inl ⟨e, m, ⟨o, es, ep, k _ _ hL ho, r⟩, q⟩
    · exact .inr ⟨e, c, hl, o, k _ _ (hc _ _ hl) ho, r⟩
  have keepB : ∀ p : Value × B, DenB H s.heap.get? p → (∀ b, isPriv p.2 = true → p.1 = .ref b → b ∉ privs ι) → DenB H s'.heap.get? p := by
    rintro ⟨v, b⟩ dd hn
    cases b with
    | fz x => exact dd
    | own xs => obtain ⟨c, items, e, ⟨m, l⟩, r⟩ := dd; exact ⟨c, items, e, ⟨m, k _ _ (hn c rfl e) l⟩, r⟩
    | priv o => obtain ⟨c, e, l⟩ := dd; exact ⟨c, e, k _ _ (hn c rfl e) l⟩
  have offH' : ∀ a, H a = none → (s.heap.get? a).isSome = true → H' a = none := fun a h1 h2 => by
    cases q : H' a with
    | none => rfl
    | some o =>
      rcases hnew a o q with h | ⟨h, _⟩
      · rw [h1] at h; cases h
      · rw [h] at h2; cases h2
  exact {
    le := fun b o e => by
      rcases hnew b o e with h | ⟨_, h⟩
      · exact k b o (fun q => by rw [(off _ q).2.1] at h; cases h) (st.le _ _ h)
      · exact h
    keep := fun b o e => k b o (fun q => by rw [(off _ q).2.2.1] at e; cases e) (st.keep _ _ e)
    sub := st.sub.trans hH
    new := fun b hb => by
      cases q : H' b with
      | none => exact absurd q hb
      | some o =>
        rcases hnew b o q with h | ⟨h, _⟩
        · exact st.new b (by rw [h]; exact fun x => nomatch x)
        · cases q2 : F.s₀.heap.get? b with
          | none => exact .inr rfl
          | some o2 => have := st.keep _ _ q2; rw [h] at this; cases this
    gens := e1.trans st.gens
    drawn := e2.trans st.drawn
    os := e3.trans st.os
    ns := let ⟨m, o, es, ep, ho, r⟩ := st.ns; ⟨m, o, es, ep, k _ _ hL ho, r⟩
    cells := fun y c e => let ⟨v, o, ho, r⟩ := st.cells y c e; ⟨v, o, k _ _ (hc y c e) ho, r⟩
    vars := by
      refine ⟨σ, e, vs.names, fun q hq => mo _ _ (vs.stored q hq), ⟨fun p hp' => ?_, ?_, fun a ha => ?_⟩⟩
      · rcases List.mem_append.mp hp' with q | q
        · refine DenB.mono hH (Le.refl _) ?_
          exact keepB p (hg.den p (List.mem_append_left _ q)) fun b hb e q' => (off _ q').2.2.2.1 (mem_store_privs hb e q)
        · rcases List.mem_append.mp q with q | q
          · exact d p q
          · refine DenB.mono hH (Le.refl _) ?_
            exact keepB p (hg.den p (List.mem_append_right _ (List.mem_append_right _ q))) fun b hb e q' => (off _ q').2.2.2.2 (mem_store_privs hb e q)
      · have nd := hg.nodup
        rw [privs_append, privs_append] at nd ⊢
        exact nd.sublist (List.Sublist.append (List.Sublist.refl _) (List.Sublist.append (List.Sublist.refl _) (List.Sublist.append hp (List.Sublist.refl _))))
      · have ha' : a ∈ F.store ++ privs (σ.map (·.2) ++ (ι ++ τ)) := by
          rw [privs_append, privs_append] at ha ⊢
          exact (List.Sublist.append (List.Sublist.refl _) (List.Sublist.append (List.Sublist.refl _) (List.Sublist.append hp (List.Sublist.refl _)))).subset ha
        have o := hg.off a ha'
        refine ⟨offH' a o.1 o.2.2, o.2.1, ?_⟩
        by_cases q : a ∈ privs ι
        · have q' : a ∈ privs ι' := by
            have o2 := off a q
            rw [privs_append, privs_append] at ha
            rcases List.mem_append.mp ha with h1 | h1
            · exact absurd h1 o2.1
            · rcases List.mem_append.mp h1 with h1 | h1
              · exact absurd h1 o2.2.2.2.1
              · rcases List.mem_append.mp h1 with h1 | h1
                · exact h1
                · exact absurd h1 o2.2.2.2.2
          obtain ⟨p, hp1, hb, e⟩ := privs_mem q'
          exact denB_some hb e (d p hp1)
        · obtain ⟨ob, ho⟩ := Option.isSome_iff_exists.mp o.2.2
          rw [k _ _ q ho]; rfl }

theorem St.updN {F : Fx} (ok : F.Ok) {ρ τ H} {s s' : Shared} {ι ι' : List (Value × B)} (st : St F ρ (ι ++ τ) H s) (hp : (privs ι').Sublist (privs ι))
    (k : ∀ b o, b ∉ privs ι → s.heap.get? b = some o → s'.heap.get? b = some o) (d : ∀ p ∈ ι', DenB H s'.heap.get? p)
    (e1 : s'.gens = s.gens := by rfl) (e2 : s'.drawn = s.drawn := by rfl) (e3 : s'.os = s.os := by rfl) : St F ρ (ι' ++ τ) H s' :=
  st.updG ok hp (Le.refl H) (fun b o e => .inl e) k d e1 e2 e3

/-- new private objects behind a call -/
theorem St.graft {F : Fx} {ρ τ H s H' s'} {ι : List (Value × B)} (st : St F ρ τ H s) (cp : CallPost H s H' s') (nd : (privs ι).Nodup) (off : ∀ a ∈ privs ι, H' a = none ∧ s.heap.get? a = none) (d : ∀ p ∈ ι, DenB H' s'.heap.get? p) : St F ρ (ι ++ τ) H' s' := by
  have st' := st.call cp
  refine st'.withVars ?_
  obtain ⟨σ, e, vs⟩ := st.vars
  have hg := vs.good
  refine ⟨σ, e, vs.names, fun q hq => (vs.stored q hq).mono cp.keep, ⟨fun p hp => ?_, ?_, fun a ha => ?_⟩⟩
  · rcases List.mem_append.mp hp with q | q
    · exact (hg.den p (List.mem_append_left _ q)).mono cp.sub cp.keep
    · rcases List.mem_append.mp q with q | q
      · exact d p q
      · exact (hg.den p (List.mem_append_right _ q)).mono cp.sub cp.keep
  · have h1 := hg.nodup
    rw [privs_append] at h1
    rw [privs_append, privs_append]
    have pm : (F.store ++ (privs (σ.map (·.2)) ++ (privs ι ++ privs τ))).Perm (privs ι ++ (F.store ++ (privs (σ.map (·.2)) ++ privs τ))) := by
      refine List.Perm.trans ?_ (List.perm_append_comm)
      simp only [List.append_assoc]
      exact List.Perm.append_left _ (List.Perm.append_left _ List.perm_append_comm)
    refine pm.nodup_iff.mpr (List.nodup_append.mpr ⟨nd, h1, fun a ha b hb q => ?_⟩)
    subst q
    have := (hg.off a (by rw [privs_append]; exact hb)).2.2
    rw [(off a ha).2] at this; cases this
  · rw [privs_append, privs_append] at ha
    have key : ∀ a, a ∈ F.store ++ privs (σ.map (·.2) ++ τ) → H' a = none ∧ F.s₀.heap.get? a = none ∧ (s'.heap.get? a).isSome = true := fun a ha => by
      have o := hg.off a ha
      obtain ⟨ob, ho⟩ := Option.isSome_iff_exists.mp o.2.2
      refine ⟨?_, o.2.1, by rw [cp.keep _ _ ho]; rfl⟩
      cases q : H' a with
      | none => rfl
      | some oo =>
        rcases cp.new a (by rw [q]; exact fun x => nomatch x) with h | h
        · exact absurd o.1 h
        · rw [h] at ho; cases ho
    rcases List.mem_append.mp ha with q | q
    · exact key a (List.mem_append_left _ q)
    · rcases List.mem_append.mp q with q | q
      · exact key a (by rw [privs_append]; exact List.mem_append_right _ (List.mem_append_left _ q))
      · rcases List.mem_append.mp q with q | q
        · have o := off a q
          refine ⟨o.1, ?_, ?_⟩
          · cases q2 : F.s₀.heap.get? a with
            | none => rfl
            | some oo => have := st.keep _ _ q2; rw [o.2] at this; cases this
          · obtain ⟨p, hp, hb, e⟩ := privs_mem q
            exact denB_some hb e (d p hp)
        · exact key a (by rw [privs_append]; exact List.mem_append_right _ (List.mem_append_right _ q))

-- what a loop runs over
inductive ItOk (H : PH) : Bool → Value → List V → List (Value × B) → Prop
  | list {I l : Addr} {i : Nat} {o : Obj} {items : List Value} {xs vs : List V} : o.cls = .type "list_iterator" → o.data = .fields #[.ref l, .int i 0] → isL H l items → DenL H xs items → vs = xs.drop i → ItOk H false (.ref I) vs [(.ref I, .priv o)]
  | range {I : Addr} {x left step : Int} {vs : List V} : vs = (List.range left.toNat).map (fun (j : Nat) => V.int (x + (j : Int) * step)) →
      ItOk H false (.ref I) vs [(.ref I, .priv { cls := .type "range_iterator", dict := none, data := .fields #[rawInt x, rawInt left, rawInt step], slots := #[] })]
  | enum {e I l : Addr} {i : Nat} {o : Obj} {old : Value} {items : List Value} {xs vs : List V} : o.cls = .type "list_iterator" → o.data = .fields #[.ref l, .int i 0] → isL H l items → DenL H xs items →
      vs = ((xs.drop i).zipIdx i).map (fun p => V.tuple [.int p.2, p.1]) →
      ItOk H true (.ref e) vs [(.ref e, .priv { cls := .type "enumerate", dict := none, data := .fields #[.none, .bool false, .ref I, rawInt i, .none, old], slots := #[] }), (.ref I, .priv o)]

theorem ItOk.mono {H H' : PH} (l : Le H H') {kd it vs ι} (h : ItOk H kd it vs ι) : ItOk H' kd it vs ι := by
  cases h with
  | list a b c d e => exact .list a b (c.mono l) (d.mono l) e
  | range e => exact .range e
  | enum a b c d e => exact .enum a b (c.mono l) (d.mono l) e

/-- a loop's target: a name, or a pair of names -/
inductive Tgt : Bool → Expr → Prop
  | name {x p} : Tgt false (.Name x p)
  | pair {kd es k p} : Tgt kd (.Tuple es k p)

theorem letGo_name {x : Str} {p : Pos} {it v : Value} : letOwnedTupleGo (.Name x p) it v = pure () := rfl

theorem letGo_list {A : Around} {s : Shared} {es : List Expr} {k : Nat} {p : Pos} {I : Addr} {u : Value} {o : Obj} {vs : Array Value} {Q : Unit → Shared → Prop} {T : String} (ho : s.heap.get? I = some o) (hc : o.cls = .type T) (hd : o.data = .fields vs)
    (hT : (["enumerate", "zip", "dict_itemiterator", "dict_reverseitemiterator", "odict_iterator", "itertools.zip_longest", "itertools.pairwise"] : List String).contains T = false) (h : Q () s) :
    wpAny (model g.prog g.w) A (letOwnedTupleGo (.Tuple es k p) (.ref I) u) Q NoE s := by
  unfold letOwnedTupleGo
  cases u with
  | ref a =>
    refine wpAny_bind (wpAny_load ho ?_)
    rw [hc, hd]
    show wpAny _ A (if (["enumerate", "zip", "dict_itemiterator", "dict_reverseitemiterator", "odict_iterator", "itertools.zip_longest", "itertools.pairwise"].contains T && _) = true then _ else _) Q NoE s
    rw [hT]
    exact wpAny_pure h
  | _ => exact wpAny_pure h

theorem den_tuple2 {H : PH} {a : Addr} {x y : V} {v w : Value} {m : Nat} (h : H a = some (tupO [v, w] m)) (d1 : Den H x v) (d2 : Den H y w) : Den H (.tuple [x, y]) (.ref a) := by
  simp only [Den]
  exact ⟨a, _, rfl, ⟨m, h⟩, DenL.cons d1 (DenL.cons d2 DenL.nil)⟩

def NextPost (g : Gl) (F : Fx) (ρ : List (Str × B)) (τ : List (Value × B)) (H : PH) (kd : Bool) (it : Value) (t : Expr) : List V → Option Value → Shared → Prop
  | [], r, s₁ => r = none ∧ ∃ H', Le H H' ∧ St F ρ τ H' s₁
  | v :: vs', r, s₁ => ∃ u, r = some u ∧ wpAny (model g.prog g.w) F.A (letOwnedTupleGo t it u) (fun _ s₂ => ∃ ι' H', Le H H' ∧ ItOk H' kd it vs' ι' ∧ St F ρ ((u, .fz v) :: (ι' ++ τ)) H' s₂) NoE s₁

theorem ItOk.next {F : Fx} {τ H s kd it vs ι} {t : Expr} (h : ItOk H kd it vs ι) (ht : Tgt kd t) (ok : Okk g n kn F) (st : St F ρ (ι ++ τ) H s) :
    wpAny (model g.prog g.w) F.A (pyNext it) (NextPost g F ρ τ H kd it t vs) NoE s := by
  cases h with
  | @list I l i o items xs vs hc hd hl hdl hv =>
    obtain ⟨I', eI, ho⟩ := st.topDen
    cases eI
    have hit : s.heap.IsListIter I l i := ⟨o, ho, hc, hd⟩
    have hL := (hl.mono st.le).isList
    cases hx : xs[i]? with
    | none =>
      have hvs : vs = [] := by rw [hv]; exact List.drop_eq_nil_of_le (by simpa using hx)
      subst hvs
      have hi : items.toArray[i]? = none := by simpa [hdl.length] using hx
      refine wpAny_pyNext_list_end ok.room.1 hit hL hi fun h' he => ⟨rfl, H, Le.refl H, ?_⟩
      exact st.updN (ι := [(.ref I, .priv o)]) (ι' := []) ok.toOk (List.nil_sublist _) (fun b o hb e => he b o (fun q => hb (by subst q; exact .head _)) e) (fun p hp => nomatch hp)
    | some x =>
      obtain ⟨w, hw, dw⟩ := hdl.get _ _ hx
      have hlt : i < xs.length := (List.getElem?_eq_some_iff.mp hx).1
      have hvs : vs = x :: xs.drop (i + 1) := by
        rw [hv, List.drop_eq_getElem_cons hlt]
        congr 1
        exact (List.getElem?_eq_some_iff.mp hx).2
      subst hvs
      refine wpAny_pyNext_list_item hit hL (x := w) (by simpa using hw) fun h' hit' hs' => ⟨w, rfl, ?_⟩
      obtain ⟨o', ho', hc', hd'⟩ := hit'
      have st' : St F ρ ((.ref I, .priv o') :: τ) H { s with heap := h' } := st.updTop ok.toOk rfl rfl (sameBut_le hs') ⟨I, rfl, ho'⟩ (by show (h'.get? I).isSome = true; rw [ho']; rfl)
      have fin : ∃ ι' H', Le H H' ∧ ItOk H' false (.ref I) (xs.drop (i + 1)) ι' ∧ St F ρ ((w, .fz x) :: (ι' ++ τ)) H' { s with heap := h' } := ⟨[(.ref I, .priv o')], H, Le.refl H, .list hc' (by rw [hd']) hl hdl rfl, st'.push dw⟩
      cases ht with
      | name => exact wpAny_pure fin
      | pair => exact letGo_list (T := "list_iterator") ho' hc' hd' (by decide) fin
  | @range I x left step vs hv =>
    obtain ⟨I', eI, ho⟩ := st.topDen
    cases eI
    by_cases hle : left ≤ 0
    · have hvs : vs = [] := by rw [hv, show left.toNat = 0 by omega]; rfl
      subst hvs
      refine wpAny_pyNext_range_end ok.room.1 ho hle fun h' he => ⟨rfl, H, Le.refl H, ?_⟩
      exact st.updN (ι := [(.ref I, .priv _)]) (ι' := []) ok.toOk (List.nil_sublist _) (fun b o hb e => he b o (fun q => hb (by subst q; exact .head _)) e) (fun p hp => nomatch hp)
    · obtain ⟨m, hm⟩ : ∃ m : Nat, left.toNat = m + 1 := ⟨left.toNat - 1, by omega⟩
      have hvs : vs = V.int x :: (List.range (left - 1).toNat).map (fun (j : Nat) => V.int (x + step + (j : Int) * step)) := by
        rw [hv, hm, List.range_succ_eq_map, List.map_cons, List.map_map]
        congr 1
        · simp
        · rw [show (left - 1).toNat = m by omega]
          apply List.map_congr_left
          intro j _
          show V.int (x + ((j + 1 : Nat) : Int) * step) = _
          congr 1
          push_cast
          rw [Int.add_mul, Int.one_mul]; omega
      subst hvs
      refine wpAny_pyNext_range_item ho (by omega) fun h' hit' hs' => ⟨_, rfl, ?_⟩
      have st' : St F ρ ((.ref I, .priv { cls := .type "range_iterator", dict := none, data := .fields #[rawInt (x + step), rawInt (left - 1), rawInt step], slots := #[] }) :: τ) H { s with heap := h', toks := s.toks + 1 } :=
        st.updTop ok.toOk rfl rfl (sameBut_le hs') ⟨I, rfl, hit'⟩ (by show (h'.get? I).isSome = true; rw [hit']; rfl)
      have fin : ∃ ι' H', Le H H' ∧ ItOk H' false (.ref I) ((List.range (left - 1).toNat).map (fun (j : Nat) => V.int (x + step + (j : Int) * step))) ι' ∧ St F ρ ((.int x s.toks, .fz (.int x)) :: (ι' ++ τ)) H' { s with heap := h', toks := s.toks + 1 } :=
        ⟨[(.ref I, .priv _)], H, Le.refl H, .range rfl, st'.push mk_int⟩
      cases ht with
      | name => exact wpAny_pure fin
      | pair => exact wpAny_pure fin
  | @enum e I l i o old items xs vs hc hd hl hdl hv =>
    obtain ⟨e', eE, he⟩ := st.topDen
    cases eE
    obtain ⟨I', eI, ho⟩ := st.pop.topDen
    cases eI
    have hit : s.heap.IsListIter I l i := ⟨o, ho, hc, hd⟩
    have hL := (hl.mono st.le).isList
    cases hx : xs[i]? with
    | none =>
      have hvs : vs = [] := by rw [hv, List.drop_eq_nil_of_le (by simpa using hx)]; rfl
      subst hvs
      have hi : items.toArray[i]? = none := by simpa [hdl.length] using hx
      refine wpAny_pyNext_enum_end ok.room.1 he hit hL hi fun h' hh => ⟨rfl, H, Le.refl H, ?_⟩
      exact st.updN (ι := [(.ref e, .priv _), (.ref I, .priv o)]) (ι' := []) ok.toOk (List.nil_sublist _) (fun b o hb e => hh b o (fun q => hb (by subst q; exact .tail _ (.head _))) e) (fun p hp => nomatch hp)
    | some x =>
      obtain ⟨w, hw, dw⟩ := hdl.get _ _ hx
      have hlt : i < xs.length := (List.getElem?_eq_some_iff.mp hx).1
      have hvs : vs = V.tuple [.int i, x] :: ((xs.drop (i + 1)).zipIdx (i + 1)).map (fun p => V.tuple [.int p.2, p.1]) := by
        rw [hv, List.drop_eq_getElem_cons hlt, List.zipIdx_cons, List.map_cons]
        rw [(List.getElem?_eq_some_iff.mp hx).2]
      subst hvs
      have hne : e ≠ I := by
        obtain ⟨σ, _, vs⟩ := st.vars
        have nd := vs.good.nodup
        rw [privs_append, privs_append] at nd
        have n2 := (List.nodup_append.mp nd).2.1
        have n3 := (List.nodup_append.mp n2).2.1
        have n4 := (List.nodup_append.mp n3).1
        have n5 : [e, I].Nodup := n4
        simpa using n5
      refine wpAny_pyNext_enum_item he hit hL (x := w) (by simpa using hw) hne fun h' heo hit' ht' hz hk => ⟨_, rfl, ?_⟩
      obtain ⟨o', ho', hc', hd'⟩ := hit'
      have hnH : H s.heap.objs.size = none := by
        cases q : H s.heap.objs.size with
        | none => rfl
        | some o' => have := st.le _ _ q; rw [get_size_none] at this; cases this
      have hes : e ≠ s.heap.objs.size := not_size (by rw [he]; rfl)
      cases ht with
      | pair =>
        refine wpAny_letOwnedTupleGo_enum heo fun h'' he'' hs'' => ?_
        have kk := sameBut_le hs''
        have htup : h''.get? s.heap.objs.size = some (tupO [.int i s.toks, w] 0) := (hs''.2 _ (Ne.symm hes)).trans ht'
        have hI : h''.get? I = some o' := (hs''.2 _ (Ne.symm hne)).trans ho'
        have hle := addH_le (H := H) (tupO [.int i s.toks, w] 0) hnH
        have ei : ((i + 1 : Nat) : Int) = (i : Int) + 1 := by push_cast; rfl
        refine ⟨[(.ref e, .priv { cls := .type "enumerate", dict := none, data := .fields #[.none, .bool false, .ref I, rawInt (i + 1 : Nat), .none, w], slots := #[] }), (.ref I, .priv o')], addH H s.heap.objs.size (tupO [.int i s.toks, w] 0), hle, .enum hc' hd' (hl.mono hle) (hdl.mono hle) rfl, ?_⟩
        refine St.push ?_ (den_tuple2 (addH_self _ _ _) mk_int (Den.mono hle _ _ dw))
        refine st.updG (ι := [(.ref e, .priv _), (.ref I, .priv o)]) ok.toOk (List.Sublist.refl [e, I]) hle (fun b o e => ?_) (fun b o hb e' => ?_) (fun p hp => ?_)
        · unfold addH at e
          split at e
          · rename_i q; subst q; cases e; exact .inr ⟨get_size_none _, htup⟩
          · exact .inl e
        · have h1 : b ≠ e := fun q => hb (by subst q; exact .head _)
          have h2 : b ≠ I := fun q => hb (by subst q; exact .tail _ (.head _))
          exact kk b o h1 (hk b o h1 h2 e')
        · rcases List.mem_cons.mp hp with rfl | hp
          · exact ⟨e, rfl, by rw [ei]; exact he''⟩
          · cases List.mem_singleton.mp hp
            exact ⟨I, rfl, hI⟩

end Mine
namespace Mine
variable {g : Gl} {n : Nat} {kn : Kn} {ρ ρ' ρ₁ ρ₂ : List (Str × B)}

def EvIt (g : Gl) (n : Nat) (kn : Kn) (ρ : List (Str × B)) (kd : Bool) (e : Expr) (vs : List V) : Prop :=
  ∀ F τ H s, Okk g n kn F → St F ρ τ H s → wpAny (model g.prog g.w) F.A (eval e F.env) (fun x s₁ => wpAny (model g.prog g.w) F.A (pyIter x) (fun it s₂ =>
    ∃ ι H', Up H s H' s₂ ∧ (∀ a ∈ privs ι, s.heap.get? a = none) ∧ ItOk H' kd it vs ι ∧ St F ρ (ι ++ τ) H' s₂) NoE s₁) NoE s

theorem EvIt_list {e : Expr} {xs : List V} (h : Ev g n kn ρ e (.fz (.list xs))) : EvIt g n kn ρ false e xs := by
  intro F τ H s ok st
  refine wpAny_mono (h F τ H s ok st) (fun v s₁ h => ?_) fun _ _ e => e
  obtain ⟨H₁, u1, st1⟩ := h
  obtain ⟨a, items, rfl, hl, hd⟩ := den_list st1.topFz
  refine wpAny_pyIter_list (hl.mono st1.le).isList ?_
  exact ⟨[(.ref s₁.heap.objs.size, .priv _)], H₁, u1.trans (Up.id (push_le _ _)), (fun a ha => by cases List.mem_singleton.mp ha; exact u1.fresh), .list (i := 0) rfl rfl hl hd (by simp), st1.pop.allocPriv _ rfl (.priv _) rfl ⟨_, rfl, Heap.get?_push_size _ rfl⟩⟩

def rangeV (a b c : Int) : List V := (List.range (Builtin.Range.rangeSize a b c).toNat).map (fun (j : Nat) => V.int (a + (j : Int) * c))

theorem range_iter {F : Fx} {τ H} {s₀ s : Shared} {r : Addr} {a b c : Int} {t u v : Tok} {H₀ : PH} (hr : IsRange s.heap r a b c t u v) (hs : Builtin.Range.small a b c = true) (st : St F ρ τ H s) (u0 : Up H₀ s₀ H s) :
    wpAny (model g.prog g.w) F.A (pyIter (.ref r)) (fun it s₂ => ∃ ι H', Up H₀ s₀ H' s₂ ∧ (∀ a ∈ privs ι, s₀.heap.get? a = none) ∧ ItOk H' false it (rangeV a b c) ι ∧ St F ρ (ι ++ τ) H' s₂) NoE s :=
  wpAny_pyIter_range hr hs ⟨[(.ref s.heap.objs.size, .priv _)], H, u0.trans (Up.id (push_le _ _)), (fun a ha => by cases List.mem_singleton.mp ha; exact u0.fresh), .range rfl, st.allocPriv _ rfl (.priv _) rfl ⟨_, rfl, Heap.get?_push_size _ rfl⟩⟩

theorem EvIt_range1 {a : Expr} {q p : Pos} {k : Int} (h : Ev g n kn ρ a (.fz (.int k))) (h1 : -(2 ^ 62) ≤ k) (h2 : k < 2 ^ 62)
    (hcall : ∀ env, eval (.Call (.Name "range" q) [a] [] p) env = (do callWith p (← eval (.Name "range" q) env) [] (backTo p (starEach [a] env)) (backToKw p (keywordEach [] env))) := by intro _; rfl)
    (he : ∀ env, starEach [a] env = [(false, eval a env)] := by intro _; rfl) (hk : kn.lookup ("range" : Str) = some .globalImplicit := by rfl) : EvIt g n kn ρ false (.Call (.Name "range" q) [a] [] p) (rangeV 0 k 1) := by
  intro F τ H s ok st
  refine Call_ (wpAny_mono (Ev_builtin (g := g) (n := n) (kn := kn) (ρ := ρ) PyProof.Rows.boot_range (by decide) (by decide) hk (by decide) F τ H s ok st) (fun v s₁ h₁ => ?_) fun _ _ e => e) (hcall _)
  obtain ⟨H₁, u1, st1⟩ := h₁
  cases den_raw st1.topFz
  refine callWith_any .type ok st1 (wpAny_mono (EvL_cons h EvL_nil he p F _ H₁ s₁ ok st1.pop) (fun vs s₂ h₂ => ?_) fun _ _ e => e) (he _) rfl
  obtain ⟨H₂, u2, hl, st2⟩ := h₂
  refine ⟨ok.baseLe st2, ?_⟩
  obtain ⟨v, rfl⟩ : ∃ v, vs = [v] := by
    match vs, hl with
    | [v], _ => exact ⟨v, rfl⟩
  obtain ⟨t, rfl⟩ := den_int (st2.topFz (v := v) (x := .int k))
  refine call_range_1 ?_
  have st3 : St F ρ τ H₂ { s₂ with heap := s₂.heap.push { cls := .type "range", data := .fields #[.int 0 s₂.toks, .int k t, .int 1 (s₂.toks + 1)] }, toks := s₂.toks + 1 + 1 } := St.ext (st2.pop) (push_le _ _)
  exact range_iter (IsRange.new _ _ _ _ _ _ _) (small_one (by omega) (by omega) h1 h2) st3 ((u1.trans u2).trans (Up.id (push_le _ _)))

theorem EvIt_range2 {a b : Expr} {q p : Pos} {k m : Int} (h : Ev g n kn ρ a (.fz (.int k))) (h' : Ev g n kn ρ b (.fz (.int m))) (h1 : -(2 ^ 62) ≤ k) (h2 : k < 2 ^ 62) (h3 : -(2 ^ 62) ≤ m) (h4 : m < 2 ^ 62)
    (hcall : ∀ env, eval (.Call (.Name "range" q) [a, b] [] p) env = (do callWith p (← eval (.Name "range" q) env) [] (backTo p (starEach [a, b] env)) (backToKw p (keywordEach [] env))) := by intro _; rfl)
    (he : ∀ env, starEach [a, b] env = [(false, eval a env), (false, eval b env)] := by intro _; rfl) (he2 : ∀ env, starEach [b] env = [(false, eval b env)] := by intro _; rfl) (hk : kn.lookup ("range" : Str) = some .globalImplicit := by rfl) :
    EvIt g n kn ρ false (.Call (.Name "range" q) [a, b] [] p) (rangeV k m 1) := by
  intro F τ H s ok st
  refine Call_ (wpAny_mono (Ev_builtin (g := g) (n := n) (kn := kn) (ρ := ρ) PyProof.Rows.boot_range (by decide) (by decide) hk (by decide) F τ H s ok st) (fun v s₁ h₁ => ?_) fun _ _ e => e) (hcall _)
  obtain ⟨H₁, u1, st1⟩ := h₁
  cases den_raw st1.topFz
  refine callWith_any .type ok st1 (wpAny_mono (EvL_cons h (EvL_cons h' EvL_nil he2) (fun env => by rw [he, he2]) p F _ H₁ s₁ ok st1.pop) (fun vs s₂ h₂ => ?_) fun _ _ e => e) (by rw [he, he2]) (by rw [he2]; rfl)
  obtain ⟨H₂, u2, hl, st2⟩ := h₂
  refine ⟨ok.baseLe st2, ?_⟩
  obtain ⟨v, w, rfl⟩ : ∃ v w, vs = [v, w] := by
    match vs, hl with
    | [v, w], _ => exact ⟨v, w, rfl⟩
  obtain ⟨u, rfl⟩ := den_int (St.topFz (v := w) (x := .int m) st2)
  obtain ⟨t, rfl⟩ := den_int (St.topFz (v := v) (x := .int k) (St.pop st2))
  refine call_range_2 ?_
  have st3 : St F ρ τ H₂ { s₂ with heap := s₂.heap.push { cls := .type "range", data := .fields #[.int k t, .int m u, .int 1 s₂.toks] }, toks := s₂.toks + 1 } := St.ext (St.pop (St.pop st2)) (push_le _ _)
  exact range_iter (IsRange.new _ _ _ _ _ _ _) (small_one h1 h2 h3 h4) st3 ((u1.trans u2).trans (Up.id (push_le _ _)))

theorem EvIt_range3 {a b c : Expr} {q p : Pos} {k m j : Int} (h : Ev g n kn ρ a (.fz (.int k))) (h' : Ev g n kn ρ b (.fz (.int m))) (h'' : Ev g n kn ρ c (.fz (.int j))) (hj : j ≠ 0) (hsm : Builtin.Range.small k m j = true) (hpy : Builtin.divisionGoesByPylong (m - k) j = false)
    (hcall : ∀ env, eval (.Call (.Name "range" q) [a, b, c] [] p) env = (do callWith p (← eval (.Name "range" q) env) [] (backTo p (starEach [a, b, c] env)) (backToKw p (keywordEach [] env))) := by intro _; rfl)
    (he : ∀ env, starEach [a, b, c] env = [(false, eval a env), (false, eval b env), (false, eval c env)] := by intro _; rfl) (he2 : ∀ env, starEach [b, c] env = [(false, eval b env), (false, eval c env)] := by intro _; rfl) (he3 : ∀ env, starEach [c] env = [(false, eval c env)] := by intro _; rfl) (hk : kn.lookup ("range" : Str) = some .globalImplicit := by rfl) :
    EvIt g n kn ρ false (.Call (.Name "range" q) [a, b, c] [] p) (rangeV k m j) := by
  intro F τ H s ok st
  refine Call_ (wpAny_mono (Ev_builtin (g := g) (n := n) (kn := kn) (ρ := ρ) PyProof.Rows.boot_range (by decide) (by decide) hk (by decide) F τ H s ok st) (fun v s₁ h₁ => ?_) fun _ _ e => e) (hcall _)
  obtain ⟨H₁, u1, st1⟩ := h₁
  cases den_raw st1.topFz
  refine callWith_any .type ok st1 (wpAny_mono (EvL_cons h (EvL_cons h' (EvL_cons h'' EvL_nil he3) (fun env => by rw [he2, he3])) (fun env => by rw [he, he2]) p F _ H₁ s₁ ok st1.pop) (fun vs s₂ h₂ => ?_) fun _ _ e => e) (by rw [he, he2]) (by rw [he2]; rfl)
  obtain ⟨H₂, u2, hl, st2⟩ := h₂
  refine ⟨ok.baseLe st2, ?_⟩
  obtain ⟨v, w, x, rfl⟩ : ∃ v w x, vs = [v, w, x] := by
    match vs, hl with
    | [v, w, x], _ => exact ⟨v, w, x, rfl⟩
  obtain ⟨z, rfl⟩ := den_int (St.topFz (v := x) (x := .int j) st2)
  obtain ⟨u, rfl⟩ := den_int (St.topFz (v := w) (x := .int m) (St.pop st2))
  obtain ⟨t, rfl⟩ := den_int (St.topFz (v := v) (x := .int k) (St.pop (St.pop st2)))
  refine call_range_3 hj ?_ (.inl hpy)
  have st3 : St F ρ τ H₂ { s₂ with heap := s₂.heap.push { cls := .type "range", data := .fields #[.int k t, .int m u, .int j z] }, toks := s₂.toks } := St.ext (St.pop (St.pop (St.pop st2))) (push_le _ _)
  exact range_iter (IsRange.new _ _ _ _ _ _ _) hsm st3 ((u1.trans u2).trans (Up.id (push_le _ _)))

theorem EvIt_enum {a : Expr} {q p : Pos} {xs : List V} (h : Ev g n kn ρ a (.fz (.list xs)))
    (hcall : ∀ env, eval (.Call (.Name "enumerate" q) [a] [] p) env = (do callWith p (← eval (.Name "enumerate" q) env) [] (backTo p (starEach [a] env)) (backToKw p (keywordEach [] env))) := by intro _; rfl)
    (he : ∀ env, starEach [a] env = [(false, eval a env)] := by intro _; rfl) (hk : kn.lookup ("enumerate" : Str) = some .globalImplicit := by rfl) :
    EvIt g n kn ρ true (.Call (.Name "enumerate" q) [a] [] p) ((xs.zipIdx 0).map (fun p => V.tuple [.int p.2, p.1])) := by
  intro F τ H s ok st
  refine Call_ (wpAny_mono (Ev_builtin (g := g) (n := n) (kn := kn) (ρ := ρ) PyProof.Rows.boot_enumerate (by decide) (by decide) hk (by decide) F τ H s ok st) (fun v s₁ h₁ => ?_) fun _ _ e => e) (hcall _)
  obtain ⟨H₁, u1, st1⟩ := h₁
  cases den_raw st1.topFz
  refine callWith_any .type ok st1 (wpAny_mono (EvL_cons h EvL_nil he p F _ H₁ s₁ ok st1.pop) (fun vs s₂ h₂ => ?_) fun _ _ e => e) (he _) rfl
  obtain ⟨H₂, u2, hl, st2⟩ := h₂
  refine ⟨ok.baseLe st2, ?_⟩
  obtain ⟨v, rfl⟩ : ∃ v, vs = [v] := by
    match vs, hl with
    | [v], _ => exact ⟨v, rfl⟩
  obtain ⟨l, items, rfl, hl, hd⟩ := den_list (st2.topFz (v := v) (x := .list xs))
  have st3 : St F ρ τ H₂ s₂ := st2.pop
  refine call_enumerate_list (hl.mono st3.le).isList fun h' he' hit hz k => ?_
  refine wpAny_pyIter_enum he' ?_
  obtain ⟨o, ho, hc, hdd⟩ := hit
  have u3 := u1.trans u2
  have fr : ∀ j, s₂.heap.objs.size ≤ j → s.heap.get? j = none := fun j hj => by
    cases q : s.heap.get? j with
    | none => rfl
    | some o => exact absurd (Heap.lt_size (u3.keep _ _ q)) (Nat.not_lt.mpr hj)
  refine ⟨[(.ref (s₂.heap.objs.size + 1), .priv _), (.ref s₂.heap.objs.size, .priv o)], H₂, u3.trans (Up.id k), fun a ha => ?_, .enum (i := 0) (old := .none) hc hdd hl hd (by simp), ?_⟩
  · rcases List.mem_cons.mp ha with rfl | ha
    · exact fr _ (Nat.le_succ _)
    · cases List.mem_singleton.mp ha; exact fr _ (Nat.le_refl _)
  · have st4 : St F ρ τ H₂ { s₂ with heap := h' } := st3.ext k
    exact st3.graft (s' := { s₂ with heap := h' }) (ι := [(.ref (s₂.heap.objs.size + 1), .priv _), (.ref s₂.heap.objs.size, .priv o)]) ⟨Le.refl _, st4.le, k, fun _ h => .inl h, rfl, rfl, rfl⟩
      (by show [s₂.heap.objs.size + 1, s₂.heap.objs.size].Nodup; simp)
      (fun a ha => by
        have hge : s₂.heap.objs.size ≤ a := by
          rcases List.mem_cons.mp ha with rfl | ha
          · exact Nat.le_succ _
          · cases List.mem_singleton.mp ha; exact Nat.le_refl _
        have h1 : s₂.heap.get? a = none := Heap.get?_none_of_le hge
        refine ⟨?_, h1⟩
        cases q : H₂ a with
        | none => rfl
        | some o => have := st3.le _ _ q; rw [h1] at this; cases this)
      (fun p hp => by
        rcases List.mem_cons.mp hp with rfl | hp
        · exact ⟨_, rfl, he'⟩
        · cases List.mem_singleton.mp hp; exact ⟨_, rfl, ho⟩)

-- a loop's target
inductive Bnd (kn : Kn) : Expr → V → List (Str × B) → List (Str × B) → Prop
  | name {x p v r r'} : Sto kn x (.fz v) r r' → keepsK kn x = true → Bnd kn (.Name x p) v r r'
  | pair {x y p q k w a b r r₁ r₂} : Sto kn x (.fz a) r r₁ → Sto kn y (.fz b) r₁ r₂ → keepsK kn x = true → keepsK kn y = true → Bnd kn (.Tuple [.Name x p, .Name y q] k w) (.tuple [a, b]) r r₂

theorem Bnd.run {F : Fx} {τ H s t v u} (h : Bnd kn t v ρ ρ₁) (ok : Okk g n kn F) (st : St F ρ ((u, .fz v) :: τ) H s) :
    wpAny (model g.prog g.w) F.A (assign t F.env u) (fun _ s' => St F ρ₁ τ H s') NoE s := by
  cases h with
  | name hs hk => exact wpAny_assign_Name (hs.run ok (keeps_of ok hk) st fun s' st' => st')
  | @pair x y p q k w a b _ r₁ _ h1 h2 k1 k2 =>
    obtain ⟨t, items, rfl, ht, hd⟩ := den_tuple st.topFz
    obtain ⟨v1, r, rfl, d1, hd⟩ := hd.inv
    obtain ⟨v2, r, rfl, d2, hd⟩ := hd.inv
    cases DenL.nil_iff.mp hd
    have hT : s.heap.IsTuple t #[v1, v2] := by
      obtain ⟨m, e⟩ := ht.mono st.le
      exact ⟨_, e, rfl, m, rfl⟩
    show wpAny _ _ (do standAt w; unpack (.ref t) (assignEach [.Name x p, .Name y q] F.env)) _ _ _
    refine wpAny_bind (wpAny_standAt (wpAny_unpack_tuple ok.room.1 hT rfl rfl fun h' hx => ?_))
    have st1 : St F ρ τ H { s with heap := h' } := st.pop.ext fun b o e => hx b o (not_size (by rw [e]; rfl)) e
    have st2 := (st1.push d2).push d1
    show wpAny _ _ (do holding [v2] (assign (.Name x p) F.env v1); do holding [] (assign (.Name y q) F.env v2); pure ()) _ _ _
    refine wpAny_bind (wpAny_holding (wpAny_assign_Name (h1.run ok (keeps_of ok k1) st2 fun s' st' => ?_)))
    exact wpAny_bind (wpAny_holding (wpAny_assign_Name (h2.run ok (keeps_of ok k2) st' fun s' st' => wpAny_pure st')))

inductive ForR (g : Gl) (n : Nat) (kn : Kn) (t : Expr) (body : List Stmt) : List V → List (Str × B) → Fl → List (Str × B) → Prop
  | done {r} : ForR g n kn t body [] r .next r
  | turn {v vs r r₁ r₂ r₃ f} : Bnd kn t v r r₁ → Exs g n kn r₁ body .next r₂ → ForR g n kn t body vs r₂ f r₃ → ForR g n kn t body (v :: vs) r f r₃
  | ret {v vs r r₁ r₂ b} : Bnd kn t v r r₁ → Exs g n kn r₁ body (.ret b) r₂ → ForR g n kn t body (v :: vs) r (.ret b) r₂

theorem Ex_for {t e : Expr} {body : List Stmt} {p : Pos} {kd : Bool} {vs : List V} {f : Fl} (h1 : EvIt g n kn ρ kd e vs) (ht : Tgt kd t) (hF : ForR g n kn t body vs ρ f ρ₁)
    (hs : ∀ env x, foldedSetIterable e env x = pure x := by intro _ _; rfl) : Ex g n kn ρ (.For t e body [] p) f ρ₁ := by
  intro F τ H s ok st
  refine wpAny_For (wpAny_mono (h1 F τ H s ok st) (fun x s₁ h₁ => wpAny_mono h₁ (fun it s₂ h₂ => ?_) fun _ _ e => e) fun _ _ e => e) (hs _)
  obtain ⟨ι, H₁, u1, _, it1, st1⟩ := h₂
  clear h₁
  refine codeAny_forLoop_any (fun m s => ∃ vs ρ₂ ι H', m = vs.length ∧ ForR g n kn t body vs ρ₂ f ρ₁ ∧ Le H H' ∧ ItOk H' kd it vs ι ∧ St F ρ₂ (ι ++ τ) H' s) (fun m s h => ?_) vs.length ⟨vs, ρ, ι, H₁, rfl, hF, u1.sub, it1, st1⟩
  clear hF
  obtain ⟨vs, ρ₂, ι, H', rfl, hf, l, hi, st⟩ := h
  refine wpAny_mono (hi.next ht ok st) (fun r s₁ h => ?_) fun _ _ e => e.elim
  cases hf with
  | done =>
    obtain ⟨rfl, H₂, l2, st2⟩ := h
    exact wpAny_execs_nil ⟨H₂, l.trans l2, st2⟩
  | turn hb hx hf =>
    obtain ⟨u, hu, hw⟩ := h
    subst hu
    refine wpAny_mono hw (fun _ s₂ h => ?_) fun _ _ e => e.elim
    obtain ⟨ι', H₂, l2, hi', st2⟩ := h
    refine wpAny_mono (hb.run ok st2) (fun _ s₃ st3 => ?_) fun _ _ e => e.elim
    refine wpAny_mono (hx F _ H₂ s₃ ok st3) (fun fl s₄ h => ?_) fun _ _ e => e.elim
    obtain ⟨H₃, l3, p⟩ := h
    cases fl with
    | next => exact ⟨_, Nat.lt_succ_self _, _, _, ι', H₃, rfl, hf, (l.trans l2).trans l3, hi'.mono l3, p⟩
    | brk => exact p.elim
    | cont => exact p.elim
    | ret v => exact p.elim
  | ret hb hx =>
    obtain ⟨u, hu, hw⟩ := h
    subst hu
    refine wpAny_mono hw (fun _ s₂ h => ?_) fun _ _ e => e.elim
    obtain ⟨ι', H₂, l2, hi', st2⟩ := h
    refine wpAny_mono (hb.run ok st2) (fun _ s₃ st3 => ?_) fun _ _ e => e.elim
    refine wpAny_mono (hx F _ H₂ s₃ ok st3) (fun fl s₄ h => ?_) fun _ _ e => e.elim
    obtain ⟨H₃, l3, p⟩ := h
    cases fl with
    | next => exact p.elim
    | brk => exact p.elim
    | cont => exact p.elim
    | ret v => exact ⟨H₃, (l.trans l2).trans l3, St.sublist p (List.Sublist.cons_cons _ (List.sublist_append_right _ _))⟩

end Mine
namespace Mine
variable {g : Gl} {n : Nat} {kn : Kn} {ρ ρ' ρ₁ ρ₂ : List (Str × B)}

-- built-ins
theorem Fn_len {xs : List V} (hz : xs.length ≤ 2 ^ 40) : Fn g n (.builtin "len") [.list xs] (.int xs.length) := by
  intro A H s vals go room base le d
  obtain ⟨v, r, rfl, d1, d2⟩ := d.inv
  cases DenL.nil_iff.mp d2
  obtain ⟨a, items, rfl, hl, hd⟩ := den_list d1
  have e : items.toArray.size = xs.length := by rw [List.size_toArray, hd.length]
  refine call_len_list (hl.mono le).isList (by rw [e]; omega) ⟨H, ⟨Le.refl _, le, Le.refl _, fun _ h => .inl h, rfl, rfl, rfl⟩, ?_⟩
  rw [e]; exact mk_int
theorem Fn_abs {i : Int} : Fn g n (.builtin "abs") [.int i] (.int i.natAbs) := by
  intro A H s vals go room base le d
  obtain ⟨v, r, rfl, d1, d2⟩ := d.inv
  cases DenL.nil_iff.mp d2
  obtain ⟨t, rfl⟩ := den_int d1
  refine call_abs_int fun u tk => ⟨H, ⟨Le.refl _, le, Le.refl _, fun _ h => .inl h, rfl, rfl, rfl⟩, ?_⟩
  have : (if i < 0 then -i else i) = (i.natAbs : Int) := by split <;> omega
  rw [this]; exact mk_int
theorem Fn_int {i : Int} : Fn g n (.type "int") [.int i] (.int i) := by
  intro A H s vals go room base le d
  obtain ⟨v, r, rfl, d1, d2⟩ := d.inv
  cases DenL.nil_iff.mp d2
  obtain ⟨t, rfl⟩ := den_int d1
  exact call_int_int ⟨H, ⟨Le.refl _, le, Le.refl _, fun _ h => .inl h, rfl, rfl, rfl⟩, mk_int⟩
theorem ints_pairs {H : PH} : ∀ {ns : List Int} {vs : List Value}, DenL H (ns.map V.int) vs → ∃ ps : List (Int × Tok), vs = ps.map (fun p => Value.int p.1 p.2) ∧ ps.map (·.1) = ns
  | [], vs, d => ⟨[], DenL.nil_iff.mp d, rfl⟩
  | i :: ns, vs, d => by
    obtain ⟨v, r, rfl, d1, d2⟩ := d.inv
    obtain ⟨t, rfl⟩ := den_int d1
    obtain ⟨ps, e1, e2⟩ := ints_pairs d2
    exact ⟨(i, t) :: ps, by rw [e1]; rfl, by rw [List.map_cons, e2]⟩
theorem Fn_sum {ns : List Int} : Fn g n (.builtin "sum") [.list (ns.map .int)] (.int ns.sum) := by
  intro A H s vals go room base le d
  obtain ⟨v, r, rfl, d1, d2⟩ := d.inv
  cases DenL.nil_iff.mp d2
  obtain ⟨a, items, rfl, hl, hd⟩ := den_list d1
  obtain ⟨ps, rfl, e2⟩ := ints_pairs hd
  have hL : s.heap.IsList a (intItems ps.toArray) := by
    have := (hl.mono le).isList
    simpa [intItems] using this
  refine sum_intListG room.1 hL fun h' tk t' k => ⟨H, ⟨Le.refl _, le.trans k, k, fun _ h => .inl h, rfl, rfl, rfl⟩, ?_⟩
  rw [preSum_eq]
  have : (List.take ps.toArray.size (ps.toArray.toList.map (·.1))).sum = ns.sum := by
    simp only [List.size_toArray]
    rw [← e2, List.take_of_length_le (by simp)]
  rw [this]; exact mk_int

-- a call whose first argument is a list of the frame's own, and whose result holds nothing of the heap
theorem Ev_callOwn {f : Expr} {x : Str} {q : Pos} {es : List Expr} {p : Pos} {fv : Value} {xs : List V} {zs : List V} {y : V} (h1 : Ev g n kn ρ f (.fz (.raw fv))) (hx : (x, B.own xs) ∈ ρ) (h2 : EvF g n kn ρ es zs) (hc : Callable g fv) (h3 : Fn g n fv (.list xs :: zs) y)
    (hy : ∀ H H' v, Den H y v → Den H' y v)
    (hcall : ∀ env, eval (.Call f (.Name x q :: es) [] p) env = (do callWith p (← eval f env) [] (backTo p (starEach (.Name x q :: es) env)) (backToKw p (keywordEach [] env))) := by intro _; rfl)
    (he : ∀ env, starEach (.Name x q :: es) env = (false, eval (.Name x q) env) :: starEach es env := by intro _; rfl) (hp : ∀ env, (backTo p (starEach es env)).any (·.1) = false := by intro _; rfl) (hd : (x == ("__debug__" : Str)) = false := by decide) :
    Ev g n kn ρ (.Call f (.Name x q :: es) [] p) (.fz y) := by
  intro F τ H s ok st
  refine Call_ (wpAny_mono (h1 F τ H s ok st) (fun v s₁ h => ?_) fun _ _ e => e) (hcall _)
  obtain ⟨H₁, u1, st1⟩ := h
  cases den_raw st1.topFz
  have st1 := st1.pop
  obtain ⟨u, hst, _⟩ := st1.look hx
  refine callWith_any hc ok st1 ?_ (he _) (hp _)
  refine wpAny_items_cons ?_ (he _)
  refine wpAny_Name ?_ hd
  suffices hh : ∀ o, o = u → wpAny (model g.prog g.w) F.A (spliced (backTo p (starEach es F.env))) (fun vs s₂ => Le g.base.get? s₂.heap.get? ∧ wpAny (model g.prog g.w) F.A (call fv (o :: vs)) (fun v s' => ∃ H', Up H s H' s' ∧ St F ρ ((v, .fz y) :: τ) H' s') NoE s₂) NoE s₁ by
    rcases hst with ⟨k, m, hm, e⟩ | ⟨k, c, hl, i⟩
    · exact wpAny_loadName_local ok.kind k hm e (hh _ rfl)
    · exact wpAny_loadName_cell ok.kind k hl i (hh _ rfl)
  intro o ho
  subst ho
  refine wpAny_mono (h2 p F _ H₁ s₁ ok st1) (fun vs s₂ h => ?_) fun _ _ e => e
  obtain ⟨H₂, u2, hl, st2⟩ := h
  refine ⟨ok.baseLe st2, ?_⟩
  obtain ⟨o', hst', a, items, e, ⟨m, ha⟩, hdl⟩ := st2.look hx
  cases (hst.mono u2.keep).fun_ hst'
  subst e
  by_cases hH : ∃ o, H₂ a = some o
  · -- cannot be, but does no harm
    obtain ⟨o, ho⟩ := hH
    have := st2.le _ _ ho
    rw [ha] at this
    cases this
    refine wpAny_mono (h3 F.A H₂ s₂ (.ref a :: vs) ok.gok ok.room (ok.baseH st2) st2.le (DenL.cons (by simp only [Den]; exact ⟨a, items, rfl, ⟨m, ho⟩, hdl⟩) (st2.denL hl))) (fun v s₃ h => ?_) fun _ _ e => e
    obtain ⟨H₃, cp, d⟩ := h
    exact ⟨H₃, (u1.trans u2).trans cp.up, (st2.popN.call cp).push d⟩
  · have hn : H₂ a = none := by
      cases q : H₂ a with
      | none => rfl
      | some o => exact absurd ⟨o, q⟩ hH
    have l2 := addH_le (H := H₂) (listO items m) hn
    have lh : Le (addH H₂ a (listO items m)) s₂.heap.get? := fun b o e => by
      unfold addH at e
      split at e
      · rename_i q; subst q; cases e; exact ha
      · exact st2.le _ _ e
    refine wpAny_mono (h3 F.A (addH H₂ a (listO items m)) s₂ (.ref a :: vs) ok.gok ok.room ((ok.baseH st2).trans l2) lh (DenL.cons (by simp only [Den]; exact ⟨a, items, rfl, ⟨m, addH_self _ _ _⟩, hdl.mono l2⟩) ((st2.denL hl).mono l2))) (fun v s₃ h => ?_) fun _ _ e => e
    obtain ⟨H₃, cp, d⟩ := h
    exact ⟨H₂, (u1.trans u2).trans (Up.id cp.keep), (St.ext st2.popN cp.keep cp.gens cp.drawn cp.os).push (hy _ _ _ d)⟩

theorem free_int {i : Int} : ∀ (H H' : PH) (v : Value), Den H (.int i) v → Den H' (.int i) v := fun H H' v d => by simpa only [Den] using d
theorem free_bool {b : Bool} : ∀ (H H' : PH) (v : Value), Den H (.bool b) v → Den H' (.bool b) v := fun H H' v d => by simpa only [Den] using d
theorem free_none : ∀ (H H' : PH) (v : Value), Den H .none v → Den H' .none v := fun H H' v d => by simpa only [Den] using d

-- a list of the frame's own: an item is stored, an item is appended
theorem setItem_at {A : Around} {s : Shared} {l : Addr} {items : List Value} {m : Nat} {k : Int} {t : Tok} {v : Value} {Q : Unit → Shared → Prop} (ho : s.heap.get? l = some (listO items m)) (h0 : 0 ≤ k) (hfit : k < 2 ^ 63) (hn : k < items.length)
    (hQ : ∀ h', h'.get? l = some (listO (items.set k.toNat v) m) → Heap.SameBut l s.heap h' → Q () { s with heap := h' }) : wpAny (model g.prog g.w) A (setItem (.ref l) (.int k t) v) Q NoE s := by
  refine ki_setAt (n := m) ho h0 hfit (by rw [List.size_toArray]; exact hn) (hQ _ ?_ (Heap.SameBut.update ..))
  rw [Heap.get?_update_self _ ho (by rfl)]
  simp [Obj.mapSeq, listO]

theorem Ex_setItem {x : Str} {q : Pos} {i e : Expr} {p p' : Pos} {xs : List V} {k : Int} {y : V} (hx : (x, B.own xs) ∈ ρ) (h1 : Ev g n kn ρ e (.fz y)) (h2 : Ev g n kn ρ i (.fz (.int k))) (h0 : 0 ≤ k) (hfit : k < 2 ^ 63) (hn : k < xs.length) (hp : Put x (.own (xs.set k.toNat y)) ρ ρ₁)
    (hs : ∀ env, swapsWith e (some (.Subscript (.Name x q) i p')) p.line env = pure false := by intro _; rfl) (hd : (x == ("__debug__" : Str)) = false := by decide) : Ex g n kn ρ (.Assign [.Subscript (.Name x q) i p'] e p) .next ρ₁ := by
  intro F τ H s ok st
  refine wpAny_Assign_Subscript (wpAny_mono (h1 F τ H s ok st) (fun v s₁ h => ?_) fun _ _ e => e) (hs _)
  obtain ⟨H₁, u1, st1⟩ := h
  obtain ⟨u, hst, _⟩ := st1.look hx
  refine wpAny_Name ?_ hd
  suffices hh : ∀ o, o = u → wpAny (model g.prog g.w) F.A (eval i F.env) (fun iv s₃ => wpAny (model g.prog g.w) F.A (setItem o iv v) (fun _ s' => ∃ H', Le H H' ∧ PostX F τ H' s' ρ₁ .next .next) NoE s₃) NoE s₁ by
    rcases hst with ⟨k, m, hm, e⟩ | ⟨k, c, hl, i⟩
    · exact wpAny_loadName_local ok.kind k hm e (hh _ rfl)
    · exact wpAny_loadName_cell ok.kind k hl i (hh _ rfl)
  intro o ho
  subst ho
  refine wpAny_mono (h2 F _ H₁ s₁ ok st1) (fun w s₂ h => ?_) fun _ _ e => e
  obtain ⟨H₂, u2, st2⟩ := h
  obtain ⟨t, rfl⟩ := den_int st2.topFz
  have st3 := st2.pop
  have dy := st3.topFz
  have st4 := st3.pop
  obtain ⟨a, items, m, hst', ha, hdl, up⟩ := st4.ownName ok.toOk hx
  cases (hst.mono u2.keep).fun_ hst'
  refine setItem_at ha h0 hfit (by rw [hdl.length]; exact hn) fun h' hh' hs' => ⟨H₂, u1.sub.trans u2.sub, ?_⟩
  exact up _ _ _ _ _ (sameBut_le hs') hh' (hdl.set _ dy) hp rfl rfl rfl

theorem Ex_append {x : Str} {q : Pos} {e : Expr} {p p' pa : Pos} {xs : List V} {y : V} (hx : (x, B.own xs) ∈ ρ) (h1 : Ev g n kn ρ e (.fz y)) (hz : xs.length ≤ 1000000) (hp : Put x (.own (xs ++ [y])) ρ ρ₁)
    (hbase : ∀ env, attributeBase (.Name x q) "append" env (eval (.Name x q) env) = eval (.Name x q) env := by intro _; rfl) (he : ∀ env, starEach [e] env = [(false, eval e env)] := by intro _; rfl)
    (hline : (pa.endLine == p.line) = true := by rfl) (hd : (x == ("__debug__" : Str)) = false := by decide) : Ex g n kn ρ (.Expr (.Call (.Attribute (.Name x q) "append" pa) [e] [] p) p') .next ρ₁ := by
  intro F τ H s ok st
  have hi : interactive F.env = false := by unfold interactive; rw [ok.kind]; rfl
  refine wpAny_Expr ?_ hi rfl
  refine wpAny_Call_method (T := "list") (id := "list.append") (hbase _) (by rw [he]; rfl) hline PySem.F.plainAttrs_list PySem.F.slot_list_append PySem.F.type_list_append ?_
  obtain ⟨u, hst, a₀, items₀, e₀, ⟨m₀, ha₀⟩, _⟩ := st.look hx
  subst e₀
  refine wpAny_Name ?_ hd
  suffices hh : ∀ o, o = Value.ref a₀ → wpAny (model g.prog g.w) F.A (callWith p (.builtin "list.append") [o] (backTo p (starEach [e] F.env)) []) (fun v s' => match v with | .ref _ => False | _ => ∃ H', Le H H' ∧ PostX F τ H' s' ρ₁ .next .next) NoE s by
    have fin : Shared.TypeIs s (.ref a₀) "list" ∧ (∀ a, Value.ref a₀ = .ref a → ∃ ob, s.heap.get? a = some ob ∧ ob.dict = none) ∧ wpAny (model g.prog g.w) F.A (callWith p (.builtin "list.append") [.ref a₀] (backTo p (starEach [e] F.env)) []) (fun v s' => match v with | .ref _ => False | _ => ∃ H', Le H H' ∧ PostX F τ H' s' ρ₁ .next .next) NoE s :=
      ⟨⟨_, ha₀, rfl⟩, fun a q => by cases q; exact ⟨_, ha₀, rfl⟩, hh _ rfl⟩
    rcases hst with ⟨k, m, hm, e⟩ | ⟨k, c, hl, i⟩
    · exact wpAny_loadName_local ok.kind k hm e fin
    · exact wpAny_loadName_cell ok.kind k hl i fin
  intro o ho
  subst ho
  rw [he]
  refine Calls.callWith_builtin rfl (Calls.evalArgs_plain (Calls.spliced_cons ?_))
  refine wpAny_mono (h1 F _ H s ok st) (fun v s₁ h => ?_) fun _ _ e => e
  obtain ⟨H₁, u1, st1⟩ := h
  refine Calls.spliced_nil ?_
  have dy := st1.topFz
  obtain ⟨a, items, m, hst', ha, hdl, up⟩ := st1.pop.ownName ok.toOk hx
  cases (hst.mono u1.keep).fun_ hst'
  refine append_at ha (fun h' hs' hh' => ?_) (by rw [List.size_toArray, hdl.length, sizeLine_eq]; omega)
  refine ⟨H₁, u1.sub, ?_⟩
  refine up _ (items ++ [v]) (m + 1) _ _ (sameBut_le hs') ?_ (hdl.append (DenL.cons dy DenL.nil)) hp rfl rfl rfl
  rw [hh']; simp [listO]

end Mine
namespace Mine
variable {g : Gl} {n : Nat} {kn : Kn} {ρ ρ' ρ₁ ρ₂ ρ₃ ρ₄ : List (Str × B)}

theorem Ev_neg {x : Expr} {p : Pos} {i : Int} (h : Ev g n kn ρ x (.fz (.int i))) : Ev g n kn ρ (.UnaryOp .USub x p) (.fz (.int (-i))) := by
  intro F τ H s ok st
  refine wpAny_UnaryOp (wpAny_mono (h F τ H s ok st) (fun v s₁ h => ?_) fun _ _ e => e)
  obtain ⟨H₁, u1, st1⟩ := h
  obtain ⟨t, rfl⟩ := den_int st1.topFz
  exact P.neg_int ⟨H₁, u1.trans (Up.id (Le.refl _)), (st1.pop.toks _).push mk_int⟩
theorem op_pow {a b : Int} (hn : 0 ≤ b) (hsz : (Builtin.Int.intBits a : Int) * b ≤ 2 ^ 27) : IntOp g .Pow a b (a ^ b.toNat) := fun A s t u Q E h => PyProof.Rows.pow_int hn hsz (h _)

theorem Ev_not {x : Expr} {p : Pos} {b : Bool} (h : Ev g n kn ρ x (.fz (.bool b))) : Ev g n kn ρ (.UnaryOp .Not x p) (.fz (.bool (!b))) := by
  intro F τ H s ok st
  refine wpAny_UnaryOp (wpAny_mono (h F τ H s ok st) (fun v s₁ h => ?_) fun _ _ e => e)
  obtain ⟨H₁, u1, st1⟩ := h
  cases den_bool st1.topFz
  exact not_value (wpAny_truthy_bool ⟨H₁, u1, st1.pop.push mk_bool⟩)

/-- «x and y» of a bool and a value -/
theorem Ev_and {x y : Expr} {p : Pos} {a b : Bool} (h1 : Ev g n kn ρ x (.fz (.bool a))) (h2 : a = true → Ev g n kn ρ y (.fz (.bool b))) : Ev g n kn ρ (.BoolOp .And [x, y] p) (.fz (.bool (a && b))) := by
  intro F τ H s ok st
  refine wpAny_And2 (wpAny_mono (h1 F τ H s ok st) (fun v s₁ h => ?_) fun _ _ e => e)
  obtain ⟨H₁, u1, st1⟩ := h
  cases den_bool st1.topFz
  refine wpAny_truthy_bool ?_
  cases a with
  | false => exact ⟨H₁, u1, st1⟩
  | true =>
    refine wpAny_mono (h2 rfl F τ H₁ s₁ ok st1.pop) (fun v s₂ h => ?_) fun _ _ e => e
    obtain ⟨H₂, u2, st2⟩ := h
    exact ⟨H₂, u1.trans u2, st2⟩

-- equality of data
mutual
def pyOf : V → PyData
  | .none => .none
  | .bool b => .bool b
  | .int i => .int i
  | .list xs => .list (pyOfs xs)
  | .tuple xs => .tuple (pyOfs xs)
  | .raw _ => .none
def pyOfs : List V → List PyData
  | [] => []
  | x :: xs => pyOf x :: pyOfs xs
end
mutual
def noRaw : V → Bool
  | .raw _ => false
  | .list xs => noRaws xs
  | .tuple xs => noRaws xs
  | _ => true
def noRaws : List V → Bool
  | [] => true
  | x :: xs => noRaw x && noRaws xs
end
mutual
theorem reads_of {H : PH} {h : Heap} (l : Le H h.get?) : ∀ (x : V) (v : Value), noRaw x = true → Den H x v → ∃ as, Reads h v (pyOf x) as
  | .none, v, _, d => by simp only [Den] at d; subst d; exact ⟨[], by simpa only [pyOf] using Reads.none⟩
  | .bool b, v, _, d => by simp only [Den] at d; subst d; exact ⟨[], by simpa only [pyOf] using Reads.bool b⟩
  | .int i, v, _, d => by
    simp only [Den] at d
    obtain ⟨t, rfl⟩ := d
    exact ⟨[], by simpa only [pyOf] using Reads.int i t⟩
  | .raw _, _, r, _ => by simp only [noRaw] at r; cases r
  | .list xs, v, r, d => by
    simp only [noRaw] at r
    obtain ⟨a, items, rfl, ⟨n, e⟩, dl⟩ := den_list d
    obtain ⟨as, ra⟩ := reads_ofs l xs items r dl
    exact ⟨a :: as, by simp only [pyOf]; exact Reads.list (l _ _ e) rfl rfl ra⟩
  | .tuple xs, v, r, d => by
    simp only [noRaw] at r
    obtain ⟨a, items, rfl, ⟨n, e⟩, dl⟩ := den_tuple d
    obtain ⟨as, ra⟩ := reads_ofs l xs items r dl
    exact ⟨as, by simp only [pyOf]; exact Reads.tuple (l _ _ e) rfl rfl ra⟩
theorem reads_ofs {H : PH} {h : Heap} (l : Le H h.get?) : ∀ (xs : List V) (vs : List Value), noRaws xs = true → DenL H xs vs → ∃ as, ReadsAll h vs (pyOfs xs) as
  | [], vs, _, d => by rw [DenL.nil_iff.mp d]; exact ⟨[], by simpa only [pyOfs] using ReadsAll.nil⟩
  | x :: xs, vs, r, d => by
    simp only [noRaws, Bool.and_eq_true] at r
    obtain ⟨v, rest, rfl, d1, d2⟩ := d.inv
    obtain ⟨as, r1⟩ := reads_of l x v r.1 d1
    obtain ⟨bs, r2⟩ := reads_ofs l xs rest r.2 d2
    exact ⟨as ++ bs, by simp only [pyOfs]; exact ReadsAll.cons r1 r2⟩
end
theorem VCmp_eq {x y : V} (h1 : noRaw x = true) (h2 : noRaw y = true) (s1 : SeqAt.shaped (pyOf x) = true) (s2 : SeqAt.shaped (pyOf y) = true) : VCmp g n .Eq x y (PyData.eqv (pyOf x) (pyOf y)) := by
  intro A H s u v Q E r l d1 d2 q
  obtain ⟨as, ra⟩ := reads_of l x u h1 d1
  obtain ⟨bs, rb⟩ := reads_of l y v h2 d2
  exact SeqAt.compareEq_shaped ra rb s1 s2 (by have := r.2.2; omega) (q s (Le.refl _) rfl rfl rfl)
theorem VCmp_ne {x y : V} (h1 : noRaw x = true) (h2 : noRaw y = true) (s1 : SeqAt.shaped (pyOf x) = true) (s2 : SeqAt.shaped (pyOf y) = true) : VCmp g n .NotEq x y (!PyData.eqv (pyOf x) (pyOf y)) := by
  intro A H s u v Q E r l d1 d2 q
  obtain ⟨as, ra⟩ := reads_of l x u h1 d1
  obtain ⟨bs, rb⟩ := reads_of l y v h2 d2
  exact SeqAt.compareNe_shaped ra rb s1 s2 (by have := r.2.2; omega) (q s (Le.refl _) rfl rfl rfl)
theorem VCmp_eqB {a b : Bool} : VCmp g n .Eq (.bool a) (.bool b) (a == b) := by
  have := VCmp_eq (g := g) (n := n) (x := .bool a) (y := .bool b) rfl rfl rfl rfl
  simpa [pyOf, PyData.eqv] using this
theorem VCmp_neB {a b : Bool} : VCmp g n .NotEq (.bool a) (.bool b) (a != b) := by
  have := VCmp_ne (g := g) (n := n) (x := .bool a) (y := .bool b) rfl rfl rfl rfl
  simpa [pyOf, PyData.eqv, bne] using this

/-- a signed number: (below, limbs) -/
abbrev natV (ns : List Int) : V := .list (ns.map .int)
abbrev sgV (b : Bool) (ns : List Int) : V := .tuple [.bool b, natV ns]
theorem pyOfs_ints : ∀ ns : List Int, pyOfs (ns.map V.int) = ns.map PyData.int
  | [] => rfl
  | i :: ns => by simp only [List.map_cons, pyOfs, pyOf, pyOfs_ints ns]
theorem noRaws_ints : ∀ ns : List Int, noRaws (ns.map V.int) = true
  | [] => rfl
  | i :: ns => by simp only [List.map_cons, noRaws, noRaw, noRaws_ints ns, Bool.and_self]
theorem eqvAll_ints : ∀ ns ms : List Int, PyData.eqvAll (ns.map PyData.int) (ms.map PyData.int) = decide (ns = ms)
  | [], [] => by simp [PyData.eqvAll]
  | [], _ :: _ => by simp [PyData.eqvAll]
  | _ :: _, [] => by simp [PyData.eqvAll]
  | a :: r, b :: t => by
    simp only [List.map_cons, PyData.eqvAll, PyData.eqv, eqvAll_ints r t]
    by_cases h : a = b <;> by_cases h' : r = t <;> simp [h, h']
theorem shaped_sg (b : Bool) (ns : List Int) : SeqAt.shaped (pyOf (sgV b ns)) = true := by
  simp only [pyOf, pyOfs, pyOfs_ints]
  simp [SeqAt.shaped, PyData.canLay0, PyData.canLayAll0, PyData.depth, PyData.depthAll, ke_canLayAll0, ke_depthAll]
theorem VCmp_neSg {a b : Bool} {xs ys : List Int} : VCmp g n .NotEq (sgV a xs) (sgV b ys) (!decide (a = b ∧ xs = ys)) := by
  have := VCmp_ne (g := g) (n := n) (x := sgV a xs) (y := sgV b ys) (by simp [noRaw, noRaws, noRaws_ints]) (by simp [noRaw, noRaws, noRaws_ints]) (shaped_sg a xs) (shaped_sg b ys)
  have e : PyData.eqv (pyOf (sgV a xs)) (pyOf (sgV b ys)) = decide (a = b ∧ xs = ys) := by
    simp only [pyOf, pyOfs, pyOfs_ints, PyData.eqv, PyData.eqvAll, eqvAll_ints, Bool.and_true]
    by_cases h : a = b <;> by_cases h' : xs = ys <;> simp [h, h']
  rw [e] at this
  exact this

-- several names at once
theorem unpackT {A : Around} {s : Shared} {t : Addr} {items : List Value} {m k : Nat} (hh : A.handled = none) (ht : s.heap.get? t = some (tupO items m)) (hk : k = items.length) :
    wpAny (model g.prog g.w) A (unpackItems (.ref t) k none) (fun r s' => r = items ∧ Le s.heap.get? s'.heap.get? ∧ s'.gens = s.gens ∧ s'.drawn = s.drawn ∧ s'.os = s.os) NoE s := by
  have hT : s.heap.IsTuple t items.toArray := ⟨_, ht, rfl, m, rfl⟩
  have e : k = items.toArray.size := by rw [List.size_toArray]; exact hk
  subst e
  exact wpAny_unpackItems_tuple hh hT fun h' hx => ⟨rfl, fun b o e => hx b o (not_size (by rw [e]; rfl)) e, rfl, rfl, rfl⟩

/-- the display's tuple, its items still on the stack -/
theorem display {es : List Expr} {k : Nat} {p : Pos} {bs : List B} (h : EvL g n kn ρ es bs) (hz : bs.length ≤ 1000 := by decide) {F : Fx} {τ H s} (ok : Okk g n kn F) (st : St F ρ τ H s) :
    wpAny (model g.prog g.w) F.A (eval (.Tuple es k p) F.env) (fun v s' => ∃ H' a vs, Up H s H' s' ∧ v = .ref a ∧ s'.heap.get? a = some (tupO vs 0) ∧ vs.length = bs.length ∧ St F ρ ((vs.zip bs).reverse ++ τ) H' s') NoE s := by
  refine wpAny_Tuple (wpAny_mono (h p F τ H s ok st) (fun vs s₁ h => ?_) fun _ _ e => e)
  obtain ⟨H₁, u1, hl, st1⟩ := h
  exact ⟨by rw [hl, sizeLine_eq]; omega, H₁, _, vs, u1.trans (Up.id (push_le _ _)), rfl, Heap.get?_push_size _ rfl, hl, st1.ext (push_le _ _)⟩

theorem Ex_tup2 {x y : Str} {p1 p2 p tp vp : Pos} {c c' : Nat} {e1 e2 : Expr} {b1 b2 : B} (h1 : Ev g n kn ρ e1 b1) (h2 : Ev g n kn ρ e2 b2) (s2 : Sto kn y b2 ρ ρ₁) (s1 : Sto kn x b1 ρ₁ ρ₂)
    (k1 : keepsK kn x = true := by rfl) (k2 : keepsK kn y = true := by rfl)
    (he1 : ∀ env, starEach [e1, e2] env = (false, eval e1 env) :: starEach [e2] env := by intro _; rfl) (he2 : ∀ env, starEach [e2] env = (false, eval e2 env) :: starEach [] env := by intro _; rfl)
    (hw : ∀ env : Env, env.scope.kind = .function → env.scope.names = kn → swappedStores [.Tuple [.Name x p1, .Name y p2] c tp] (.Tuple [e1, e2] c' vp) env = pure (some [x, y]) := by (intro env h1 h2; obtain ⟨⟨k, nm, _, _, _⟩, _, _, _, _, _, _, _, _⟩ := env; cases h1; cases h2; rfl)) :
    Ex g n kn ρ (.Assign [.Tuple [.Name x p1, .Name y p2] c tp] (.Tuple [e1, e2] c' vp) p) .next ρ₂ := by
  intro F τ H s ok st
  refine Assign_Tuple_swapped (names := [x, y]) (wpAny_mono (display (EvL_cons h1 (EvL_cons h2 EvL_nil he2) he1) (hz := by simp) ok st) (fun v s₁ h => ?_) fun _ _ e => e) rfl (hw _ ok.kind ok.names)
  obtain ⟨H₁, a, vs, u1, rfl, ha, hl, st1⟩ := h
  obtain ⟨v1, v2, rfl⟩ : ∃ v1 v2, vs = [v1, v2] := by
    match vs, hl with
    | [v1, v2], _ => exact ⟨v1, v2, rfl⟩
  refine wpAny_mono (unpackT ok.room.1 ha rfl) (fun r s₂ h => ?_) fun _ _ e => e
  obtain ⟨rfl, k, g1, g2, g3⟩ := h
  have st2 : St F ρ ((v2, b2) :: (v1, b1) :: τ) H₁ s₂ := st1.ext k g1 g2 g3
  show wpAny _ _ (do holding [v1] (bindName F.env y v2); do holding [] (bindName F.env x v1); pure ()) _ _ _
  refine wpAny_bind (wpAny_holding (wpAny_bindName (s2.run ok (keeps_of ok k2) st2 fun s' st' => ?_)))
  exact wpAny_bind (wpAny_holding (wpAny_bindName (s1.run ok (keeps_of ok k1) st' fun s' st' => wpAny_pure ⟨H₁, u1.sub, st'⟩)))

theorem Ex_tup3 {x y z : Str} {p1 p2 p3 p tp vp : Pos} {c c' : Nat} {e1 e2 e3 : Expr} {b1 b2 b3 : B} (h1 : Ev g n kn ρ e1 b1) (h2 : Ev g n kn ρ e2 b2) (h3 : Ev g n kn ρ e3 b3) (s3 : Sto kn z b3 ρ ρ₁) (s2 : Sto kn y b2 ρ₁ ρ₂) (s1 : Sto kn x b1 ρ₂ ρ₃)
    (k1 : keepsK kn x = true := by rfl) (k2 : keepsK kn y = true := by rfl) (k3 : keepsK kn z = true := by rfl)
    (he1 : ∀ env, starEach [e1, e2, e3] env = (false, eval e1 env) :: starEach [e2, e3] env := by intro _; rfl) (he2 : ∀ env, starEach [e2, e3] env = (false, eval e2 env) :: starEach [e3] env := by intro _; rfl) (he3 : ∀ env, starEach [e3] env = (false, eval e3 env) :: starEach [] env := by intro _; rfl)
    (hw : ∀ env : Env, env.scope.kind = .function → env.scope.names = kn → swappedStores [.Tuple [.Name x p1, .Name y p2, .Name z p3] c tp] (.Tuple [e1, e2, e3] c' vp) env = pure (some [x, y, z]) := by (intro env h1 h2; obtain ⟨⟨k, nm, _, _, _⟩, _, _, _, _, _, _, _, _⟩ := env; cases h1; cases h2; rfl)) :
    Ex g n kn ρ (.Assign [.Tuple [.Name x p1, .Name y p2, .Name z p3] c tp] (.Tuple [e1, e2, e3] c' vp) p) .next ρ₃ := by
  intro F τ H s ok st
  refine Assign_Tuple_swapped (names := [x, y, z]) (wpAny_mono (display (EvL_cons h1 (EvL_cons h2 (EvL_cons h3 EvL_nil he3) he2) he1) (hz := by simp) ok st) (fun v s₁ h => ?_) fun _ _ e => e) rfl (hw _ ok.kind ok.names)
  obtain ⟨H₁, a, vs, u1, rfl, ha, hl, st1⟩ := h
  obtain ⟨v1, v2, v3, rfl⟩ : ∃ v1 v2 v3, vs = [v1, v2, v3] := by
    match vs, hl with
    | [v1, v2, v3], _ => exact ⟨v1, v2, v3, rfl⟩
  refine wpAny_mono (unpackT ok.room.1 ha rfl) (fun r s₂ h => ?_) fun _ _ e => e
  obtain ⟨rfl, k, g1, g2, g3⟩ := h
  have st2 : St F ρ ((v3, b3) :: (v2, b2) :: (v1, b1) :: τ) H₁ s₂ := st1.ext k g1 g2 g3
  show wpAny _ _ (do holding [v2, v1] (bindName F.env z v3); do holding [v1] (bindName F.env y v2); do holding [] (bindName F.env x v1); pure ()) _ _ _
  refine wpAny_bind (wpAny_holding (wpAny_bindName (s3.run ok (keeps_of ok k3) st2 fun s' st' => ?_)))
  refine wpAny_bind (wpAny_holding (wpAny_bindName (s2.run ok (keeps_of ok k2) st' fun s' st' => ?_)))
  exact wpAny_bind (wpAny_holding (wpAny_bindName (s1.run ok (keeps_of ok k1) st' fun s' st' => wpAny_pure ⟨H₁, u1.sub, st'⟩)))

/-- stores, one after the other -/
inductive Stos (kn : Kn) : List (Str × B) → List (Str × B) → List (Str × B) → Prop
  | nil {r} : Stos kn [] r r
  | cons {x b l r r₁ r₂} : Sto kn x b r r₁ → keepsK kn x = true → Stos kn l r₁ r₂ → Stos kn ((x, b) :: l) r r₂

theorem Stos.run {F : Fx} {τ H} {ps : List Pos} (ok : Okk g n kn F) : ∀ {l : List (Str × B)} {ps : List Pos} {vs : List Value} {r r' : List (Str × B)} {s : Shared}, Stos kn l r r' → vs.length = l.length → ps.length = l.length → St F r (vs.zip (l.map (·.2)) ++ τ) H s →
    wpAny (model g.prog g.w) F.A (assignInOrder ((l.zip ps).map fun q => assign (.Name q.1.1 q.2) F.env) vs) (fun _ s' => St F r' τ H s') NoE s
  | [], ps, vs, r, r', s, h, hl, hp, st => by
    cases h
    cases vs with
    | nil => exact wpAny_pure st
    | cons v vs => simp at hl
  | (x, b) :: l, ps, vs, r, r', s, h, hl, hp, st => by
    cases vs with
    | nil => simp at hl
    | cons v vs =>
      cases ps with
      | nil => simp at hp
      | cons q ps =>
        cases h with
        | cons h1 k1 h2 =>
          show wpAny _ _ (do holding vs (assign (.Name x q) F.env v); assignInOrder ((l.zip ps).map fun q => assign (.Name q.1.1 q.2) F.env) vs) _ _ _
          exact wpAny_bind (wpAny_holding (wpAny_assign_Name (h1.run ok (keeps_of ok k1) st fun s' st' => Stos.run (ps := ps) ok h2 (by simpa using hl) (by simpa using hp) st')))

/-- names in their order from a tuple that is frozen -/
theorem Ex_unpack {l : List (Str × B)} {ps : List Pos} {ts : List Expr} {e : Expr} {p tp : Pos} {c : Nat} {xs : List V} (h : Ev g n kn ρ e (.fz (.tuple xs))) (hl : l.map (·.2) = xs.map B.fz) (hs : Stos kn l ρ ρ₁)
    (hps : ps.length = l.length := by rfl)
    (hts : ∀ env, assignEach ts env = (l.zip ps).map fun q => (false, assign (.Name q.1.1 q.2) env) := by intro _; rfl)
    (hsw : swapsWithSole [.Tuple ts c tp] e p.line = fun _ => pure false := by rfl)
    (hw : ∀ env, swappedStores [.Tuple ts c tp] e env = pure none := by intro _; rfl) : Ex g n kn ρ (.Assign [.Tuple ts c tp] e p) .next ρ₁ := by
  intro F τ H s ok st
  refine Assign_Tuple (wpAny_mono (h F τ H s ok st) (fun v s₁ h => ?_) fun _ _ e => e) (by rw [hsw]) (hw _)
  obtain ⟨H₁, u1, st1⟩ := h
  obtain ⟨a, items, rfl, ⟨m, ha⟩, hd⟩ := den_tuple st1.topFz
  have hlen : xs.length = l.length := by have := congrArg List.length hl; simpa using this.symm
  show wpAny _ _ (do standAt tp; unpack (.ref a) (assignEach ts F.env)) _ _ _
  refine wpAny_bind (wpAny_standAt ?_)
  rw [hts]
  unfold unpack
  have hnone : (List.findIdx? (fun x => x.1) (List.map (fun q => ((false : Bool), assign (Expr.Name q.1.1 q.2) F.env)) (l.zip ps))) = none := by
    rw [List.findIdx?_eq_none_iff]
    intro x hx
    obtain ⟨q, _, rfl⟩ := List.mem_map.mp hx
    rfl
  rw [hnone]
  refine wpAny_bind (wpAny_holding (wpAny_mono (unpackT ok.room.1 (st1.le _ _ ha) (by rw [List.length_map, List.length_zip, hps, Nat.min_self, hd.length, hlen])) (fun r s₂ h => ?_) fun _ _ e => e))
  obtain ⟨rfl, k, g1, g2, g3⟩ := h
  have st2 : St F ρ τ H₁ s₂ := st1.pop.ext k g1 g2 g3
  rw [List.map_map]
  have st3 : St F ρ (r.zip (l.map (·.2)) ++ τ) H₁ s₂ := by
    rw [hl]
    clear hl hlen ha hnone h st1
    induction xs generalizing r with
    | nil => rw [DenL.nil_iff.mp hd]; exact st2
    | cons x xs ih =>
      obtain ⟨v, q, rfl, d1, d2⟩ := hd.inv
      exact (ih _ d2).push d1
  exact wpAny_mono (hs.run (ps := ps) ok (by rw [hd.length, hlen]) hps st3) (fun _ s₃ st4 => ⟨H₁, u1.sub, st4⟩) fun _ _ e => e

/-- names in their order from a display, unswapped -/
theorem Ex_tupN {l : List (Str × B)} {ps : List Pos} {ts es : List Expr} {p tp vp : Pos} {c c' : Nat} (h : EvL g n kn ρ es (l.map (·.2))) (hs : Stos kn l ρ ρ₁)
    (hps : ps.length = l.length := by rfl) (hz : l.length ≤ 1000 := by decide)
    (hts : ∀ env, assignEach ts env = (l.zip ps).map fun q => (false, assign (.Name q.1.1 q.2) env) := by intro _; rfl)
    (hw : ∀ env : Env, env.scope.kind = .function → env.scope.names = kn → swappedStores [.Tuple ts c tp] (.Tuple es c' vp) env = pure none := by (intro env h1 h2; obtain ⟨⟨k, nm, _, _, _⟩, _, _, _, _, _, _, _, _⟩ := env; cases h1; cases h2; rfl)) :
    Ex g n kn ρ (.Assign [.Tuple ts c tp] (.Tuple es c' vp) p) .next ρ₁ := by
  intro F τ H s ok st
  refine Assign_Tuple (wpAny_mono (display h (hz := by simpa using hz) ok st) (fun v s₁ h => ?_) fun _ _ e => e) rfl (hw _ ok.kind ok.names)
  obtain ⟨H₁, a, vs, u1, rfl, ha, hl, st1⟩ := h
  rw [List.length_map] at hl
  show wpAny _ _ (do standAt tp; unpack (.ref a) (assignEach ts F.env)) _ _ _
  refine wpAny_bind (wpAny_standAt ?_)
  rw [hts]
  unfold unpack
  have hnone : (List.findIdx? (fun x => x.1) (List.map (fun q => ((false : Bool), assign (Expr.Name q.1.1 q.2) F.env)) (l.zip ps))) = none := by
    rw [List.findIdx?_eq_none_iff]
    intro x hx
    obtain ⟨q, _, rfl⟩ := List.mem_map.mp hx
    rfl
  rw [hnone]
  refine wpAny_bind (wpAny_holding (wpAny_mono (unpackT ok.room.1 ha (by rw [List.length_map, List.length_zip, hps, Nat.min_self, hl])) (fun r s₂ h => ?_) fun _ _ e => e))
  obtain ⟨rfl, k, g1, g2, g3⟩ := h
  have st2 := (st1.perm (τ' := r.zip (l.map (·.2)) ++ τ) (List.Perm.append_right _ (List.reverse_perm _))).ext k g1 g2 g3
  rw [List.map_map]
  exact wpAny_mono (hs.run (ps := ps) ok hl hps st2) (fun _ s₃ st4 => ⟨H₁, u1.sub, st4⟩) fun _ _ e => e

/-- a call that gives none, as a statement -/
theorem Ex_exprNone {e : Expr} {p : Pos} (h : Ev g n kn ρ e (.fz .none)) (hs : ∀ env, swapsWith e none p.line env = pure false := by intro _; rfl) : Ex g n kn ρ (.Expr e p) .next ρ := by
  intro F τ H s ok st
  have hi : interactive F.env = false := by unfold interactive; rw [ok.kind]; rfl
  refine wpAny_Expr (wpAny_mono (h F τ H s ok st) (fun v s₁ h => ?_) fun _ _ e => e) hi (hs _)
  obtain ⟨H₁, u1, st1⟩ := h
  have : v = .none := by simpa only [Den] using st1.topFz
  subst this
  exact ⟨H₁, u1.sub, st1.pop⟩

-- [v] * k
theorem foldl_rep (v : Value) : ∀ k : Nat, ∀ acc : Array Value, List.foldl (fun x1 x2 => x1 ++ x2) acc (List.replicate k #[v]) = acc ++ (List.replicate k v).toArray
  | 0, acc => by simp
  | k + 1, acc => by
    rw [List.replicate_succ, List.foldl_cons, foldl_rep v k, Array.append_assoc]
    congr 1
    rw [List.replicate_succ]
    apply Array.ext'
    simp

theorem EvO_rep {e m : Expr} {lp p : Pos} {y : V} {k : Int} (h1 : Ev g n kn ρ e (.fz y)) (h2 : Ev g n kn ρ m (.fz (.int k))) (h0 : 0 ≤ k) (hk : k ≤ 1000000)
    (he : ∀ env, starEach [e] env = (false, eval e env) :: starEach [] env := by intro _; rfl) : EvO g n kn ρ (.BinOp (.List [e] lp) .Mult m p) (List.replicate k.toNat y) := by
  intro F τ H s ok st
  refine wpAny_BinOp (wpAny_List (wpAny_mono (EvL_cons h1 EvL_nil he lp F τ H s ok st) (fun vs s₁ h => ?_) fun _ _ e => e))
  obtain ⟨H₁, u1, hl, st1⟩ := h
  obtain ⟨v, rfl⟩ : ∃ v, vs = [v] := by
    match vs, hl with
    | [v], _ => exact ⟨v, rfl⟩
  refine ⟨by rw [sizeLine_eq]; simp, ?_⟩
  have hL0 : (s₁.heap.push { cls := .type "list", data := .seq [v].toArray }).get? s₁.heap.objs.size = some { cls := .type "list", data := .seq [v].toArray } := Heap.get?_push_size _ rfl
  have st2 : St F ρ ((v, .fz y) :: τ) H₁ { s₁ with heap := s₁.heap.push { cls := .type "list", data := .seq [v].toArray } } := St.ext (τ := (v, .fz y) :: τ) st1 (push_le _ _)
  refine wpAny_mono (h2 F _ H₁ _ ok st2) (fun w s₂ h => ?_) fun _ _ e => e
  obtain ⟨H₂, u2, st3⟩ := h
  obtain ⟨t, rfl⟩ := den_int st3.topFz
  have dy := st3.pop.topFz
  have hL := u2.keep _ _ hL0
  refine wpAny_binaryOp_repeat_ref (T := "list") (U := "int") (by decide) ⟨_, hL, rfl⟩ (fun s' => typeIs_int s' k t) noFill_list_mul PySem.F.fills_int_mul PySem.F.slot_int_rmul repeat_list PySem.F.slot_int_index.lookup
    (call_meets PySem.F.slot_int_rmul (typeIs_int s₂ k t) PySem.F.entry_int_rmul (PySem.F.args_int_rmul_2 _ _) (int___rmul___int_list k t s₁.heap.objs.size [v].toArray 0)
      ⟨hL, rfl, ⟨_, hL, rfl⟩, call_meets PySem.F.slot_list_mul ⟨_, hL, rfl⟩ PySem.F.entry_list_mul (PySem.F.args_list_mul_2 _ _)
        (AutoListH.list___mul___list_int_3 s₁.heap.objs.size [v].toArray 0 k t (by simp [Builtin.List.listFitsIndex]; omega) (by simp; omega) (by simp [Builtin.List.listTooLong, sizeLine]; omega))
        ⟨hL, ?_⟩⟩)
  have e0 : (if ([v].toArray).isEmpty = true then 0 else k.toNat) = k.toNat := by simp
  rw [e0]
  have e1 : List.foldl (fun x1 x2 => x1 ++ x2) #[] (List.replicate k.toNat [v].toArray) = (List.replicate k.toNat v).toArray := by
    rw [foldl_rep v k.toNat #[]]; simp
  have u3 : Up H₁ s₁ H₁ { s₁ with heap := s₁.heap.push { cls := .type "list", data := .seq [v].toArray } } := Up.id (push_le _ _)
  have u4 := (u1.trans u3).trans u2
  have dd : ∀ j : Nat, DenL H₂ (List.replicate j y) (List.replicate j v) := by
    intro j
    induction j with
    | zero => exact DenL.nil
    | succ j ih => rw [List.replicate_succ, List.replicate_succ]; exact DenL.cons dy ih
  rw [e1]
  exact ⟨H₂, u4.trans (Up.id (push_le _ _)), ⟨_, rfl, u4.fresh⟩, st3.pop.pop.allocPriv (listO (List.replicate k.toNat v) 0) rfl (.own _) rfl ⟨_, _, rfl, ⟨0, Heap.get?_push_size _ rfl⟩, dd _⟩⟩

end Mine
namespace Mine
variable {g : Gl} {n : Nat} {kn : Kn} {ρ ρ' ρ₁ ρ₂ ρ₃ ρ₄ : List (Str × B)}

def remap (kn cn : Kn) : Kn := cn.map fun x => if x.2 == .free && kn.lookup x.1 == some .cell then (x.1, .cell) else (x.1, x.2)

theorem closure_wp {F : Fx} {A : Around} {s : Shared} {scope : Scope} (hf : ∀ x, (x, NameKind.free) ∈ scope.names → ∃ c, F.env.cells.lookup x = some c) :
    wpAny (model g.prog g.w) A (closureFor scope F.env) (fun clo s' => s' = s ∧ (∀ x c, (x, c) ∈ clo → F.env.cells.lookup x = some c) ∧ ∀ x, (x, NameKind.free) ∈ scope.names → ∃ c, (x, c) ∈ clo) NoE s := by
  unfold closureFor
  refine wpAny_bind (wpAny_forIn_list _ (fun rest acc s' => s' = s ∧ (∀ x ∈ rest, x ∈ scope.names) ∧ (∀ x c, (x, c) ∈ acc → F.env.cells.lookup x = some c) ∧ ∀ x, (x, NameKind.free) ∈ scope.names → (x, NameKind.free) ∈ rest ∨ ∃ c, (x, c) ∈ acc) _ ?_ ?_ _ _ ⟨rfl, fun x h => h, fun x c h => (nomatch h), fun x h => .inl h⟩)
  · rintro ⟨x, k⟩ rest acc s' ⟨rfl, h0, h1, h2⟩
    have hm := h0 _ (.head _)
    have h0' : ∀ y ∈ rest, y ∈ scope.names := fun y hy => h0 y (.tail _ hy)
    dsimp only
    by_cases hk : k = .free
    · subst hk
      obtain ⟨c, hc⟩ := hf x hm
      simp only [beq_self_eq_true, if_true]
      refine wpAny_bind (wpAny_cellOf hc (wpAny_pure ⟨rfl, h0', fun y d hy => ?_, fun y hy => ?_⟩))
      · rcases List.mem_cons.mp hy with e | hy
        · cases e; exact hc
        · exact h1 y d hy
      · rcases h2 y hy with q | ⟨d, hd⟩
        · rcases List.mem_cons.mp q with e | q
          · cases e; exact .inr ⟨c, .head _⟩
          · exact .inl q
        · exact .inr ⟨d, .tail _ hd⟩
    · have : (k == NameKind.free) = false := by simpa using hk
      simp only [this, Bool.false_eq_true, if_false]
      refine wpAny_pure ⟨rfl, h0', h1, fun y hy => ?_⟩
      rcases h2 y hy with q | q
      · rcases List.mem_cons.mp q with e | q
        · cases e; exact absurd rfl hk
        · exact .inl q
      · exact .inr q
  · rintro acc s' ⟨rfl, h0, h1, h2⟩
    refine wpAny_pure ⟨rfl, h1, fun x hx => ?_⟩
    rcases h2 x hx with q | q
    · cases q
    · exact q

/-- an expression that may turn the frame's own objects -/
def EvM (g : Gl) (n : Nat) (kn : Kn) (ρ : List (Str × B)) (e : Expr) (b : B) (ρ' : List (Str × B)) : Prop :=
  ∀ F τ H s, Okk g n kn F → St F ρ τ H s → wpAny (model g.prog g.w) F.A (eval e F.env) (fun v s' => ∃ H', Le H H' ∧ St F ρ' ((v, b) :: τ) H' s') NoE s
theorem Ev.m {e : Expr} {b : B} (h : Ev g n kn ρ e b) : EvM g n kn ρ e b ρ := fun F τ H s ok st => wpAny_mono (h F τ H s ok st) (fun v s₁ ⟨H₁, u, st1⟩ => ⟨H₁, u.sub, st1⟩) fun _ _ e => e

/-- what a comprehension gives over its items -/
inductive CompR (g : Gl) (n : Nat) (kn : Kn) (t : Expr) (cs : List Expr) (elt : Expr) : List V → List (Str × B) → List V → List (Str × B) → Prop
  | done {r} : CompR g n kn t cs elt [] r [] r
  | takeM {v vs r r₁ r₂ y ys re} : Bnd kn t v r r₁ → cs = [] → EvM g n kn r₁ elt (.fz y) r₂ → CompR g n kn t cs elt vs r₂ ys re → CompR g n kn t cs elt (v :: vs) r (y :: ys) re
  | takeIf {c v vs r r₁ y ys re} : Bnd kn t v r r₁ → cs = [c] → Tr g n kn r₁ c true → Ev g n kn r₁ elt (.fz y) → CompR g n kn t cs elt vs r₁ ys re → CompR g n kn t cs elt (v :: vs) r (y :: ys) re
  | skip {c v vs r r₁ ys re} : Bnd kn t v r r₁ → cs = [c] → Tr g n kn r₁ c false → CompR g n kn t cs elt vs r₁ ys re → CompR g n kn t cs elt (v :: vs) r ys re
theorem CompR.take {t cs elt v vs r r₁ y ys re} (h1 : Bnd kn t v r r₁) (h2 : cs = []) (h3 : Ev g n kn r₁ elt (.fz y)) (h4 : CompR g n kn t cs elt vs r₁ ys re) : CompR g n kn t cs elt (v :: vs) r (y :: ys) re := .takeM h1 h2 h3.m h4
theorem CompR.len {t cs elt vs r ys re} (h : CompR g n kn t cs elt vs r ys re) : ys.length ≤ vs.length := by
  induction h with
  | done => exact Nat.le_refl _
  | takeM _ _ _ _ ih => simp only [List.length_cons]; omega
  | takeIf _ _ _ _ _ ih => simp only [List.length_cons]; omega
  | skip _ _ _ _ ih => simp only [List.length_cons]; omega

/-- the comprehension's own loop, in its own frame -/
theorem comp_loop {F : Fx} {H₀ : PH} {kd : Bool} {elt target iter : Expr} {cs : List Expr} {scope : Scope} {pos : Pos} {it acc : Value} (ok : Okk g n kn F) (ht : Tgt kd target) {R : Result → Shared → Prop} {ysAll : List V}
    {re : List (Str × B)} (hR : ∀ s H', Le H₀ H' → St F re [(acc, .own ysAll)] H' s → R (.ok .next) s) :
    ∀ {vs : List V} {r : List (Str × B)} {ys : List V} {xs : List V} {ι : List (Value × B)} {H : PH} {s : Shared}, CompR g n kn target cs elt vs r ys re → xs ++ ys = ysAll → ysAll.length ≤ 1000000 → Le H₀ H → ItOk H kd it vs ι → St F r ((acc, .own xs) :: ι) H s →
      codeAny (model g.prog g.w) F.A (.compLoop (.ListComp elt [⟨target, iter, cs, 0⟩] scope pos) 0 it acc F.env) R s := by
  intro vs r ys xs ι H s hc hy hz hl hi st
  refine codeAny_loop rfl (fun m s => ∃ vs r ys xs ι H, m = vs.length ∧ CompR g n kn target cs elt vs r ys re ∧ xs ++ ys = ysAll ∧ Le H₀ H ∧ ItOk H kd it vs ι ∧ St F r ((acc, .own xs) :: ι) H s) (fun m s h => ?_) vs.length ⟨vs, r, ys, xs, ι, H, rfl, hc, hy, hl, hi, st⟩
  clear hc hy hl hi st
  obtain ⟨vs, r, ys, xs, ι, H, rfl, hc, hy, hl, hi, st⟩ := h
  show wpAny _ _ ((compTurn (.ListComp elt [⟨target, iter, cs, 0⟩] scope pos) 0 it acc F.env).onRaise (fun x => do noteFrame x F.env; theTreesLotGoes x)) _ _ s
  refine wpAny_noted ?_
  rw [compTurn_list]
  have stI : St F r (ι ++ [(acc, .own xs)]) H s := st.perm (List.perm_append_comm (l₁ := [(acc, B.own xs)]) (l₂ := ι))
  refine wpAny_bind (wpAny_standAt (wpAny_bind (wpAny_mono (hi.next ht ok stI) (fun rr s₁ h => ?_) fun _ _ e => e.elim)))
  -- one more item
  have app : ∀ {v vs' r₁ r₂ y ys' s₃ H₃ ι'}, vs = v :: vs' → ys = y :: ys' → CompR g n kn target cs elt vs' r₂ ys' re → EvM g n kn r₁ elt (.fz y) r₂ → Le H H₃ → ItOk H₃ kd it vs' ι' → St F r₁ (ι' ++ [(acc, .own xs)]) H₃ s₃ →
      wpAny (model g.prog g.w) F.A (eval elt F.env) (fun x s₄ => wpAny (model g.prog g.w) F.A (call (.builtin "list.append") [acc, x]) (fun _ s₅ => ∃ m, m < vs.length ∧
        ∃ vs r ys xs ι H, m = vs.length ∧ CompR g n kn target cs elt vs r ys re ∧ xs ++ ys = ysAll ∧ Le H₀ H ∧ ItOk H kd it vs ι ∧ St F r ((acc, .own xs) :: ι) H s₅) NoE s₄) NoE s₃ := by
    intro v vs' r₁ r₂ y ys' s₃ H₃ ι' ev ey hc' he l3 hi' st3
    refine wpAny_mono (he F _ H₃ s₃ ok st3) (fun x s₄ h => ?_) fun _ _ e => e
    obtain ⟨H₄, l4, st4⟩ := h
    have dy := st4.topFz
    have st5 : St F r₂ ((acc, .own xs) :: ι') H₄ s₄ := st4.pop.perm (List.perm_append_comm (l₁ := ι') (l₂ := [(acc, B.own xs)]))
    obtain ⟨a, items, ea, ⟨m, ha⟩, hd⟩ := st5.topDen
    cases ea
    have hlen : items.length ≤ 1000000 := by
      rw [hd.length]
      have := congrArg List.length hy
      rw [List.length_append] at this
      omega
    refine append_at ha (fun h' hs' hh' => ?_) (by rw [List.size_toArray, sizeLine_eq]; omega)
    have e2 : h'.get? a = some (listO (items ++ [x]) (m + 1)) := by rw [hh']; simp [listO]
    have st6 : St F r₂ ((.ref a, .own (xs ++ [y])) :: ι') H₄ { s₄ with heap := h' } :=
      st5.updTop ok.toOk rfl rfl (sameBut_le hs') ⟨a, items ++ [x], rfl, ⟨m + 1, e2⟩, hd.append (DenL.cons dy DenL.nil)⟩ (by show (h'.get? a).isSome = true; rw [e2]; rfl)
    exact ⟨vs'.length, by rw [ev]; exact Nat.lt_succ_self _, vs', r₂, ys', xs ++ [y], ι', H₄, rfl, hc', by rw [← hy, ey]; simp, (hl.trans l3).trans l4, hi'.mono l4, st6⟩
  cases hc with
  | done =>
    obtain ⟨rfl, H₂, l2, st2⟩ := h
    rw [List.append_nil] at hy
    subst hy
    exact wpAny_pure (hR _ _ (hl.trans l2) st2)
  | takeM hb hcs he hc' =>
    subst hcs
    obtain ⟨u, hu, hw⟩ := h
    subst hu
    refine wpAny_bind (wpAny_mono hw (fun _ s₂ h => ?_) fun _ _ e => e.elim)
    obtain ⟨ι', H₂, l2, hi', st2⟩ := h
    refine wpAny_bind (wpAny_mono (hb.run ok st2) (fun _ s₃ st3 => ?_) fun _ _ e => e.elim)
    refine wpAny_bind (wpAny_tests_nil ?_)
    exact wpAny_bind (wpAny_bind (wpAny_mono (app rfl rfl hc' he l2 hi' st3) (fun x s₄ h₄ => wpAny_bind (wpAny_mono h₄ (fun _ s₅ h₅ => wpAny_pure (wpAny_pure ⟨rfl, h₅⟩)) fun _ _ e => e.elim)) fun _ _ e => e.elim))
  | takeIf hb hcs htr he hc' =>
    subst hcs
    obtain ⟨u, hu, hw⟩ := h
    subst hu
    refine wpAny_bind (wpAny_mono hw (fun _ s₂ h => ?_) fun _ _ e => e.elim)
    obtain ⟨ι', H₂, l2, hi', st2⟩ := h
    refine wpAny_bind (wpAny_mono (hb.run ok st2) (fun _ s₃ st3 => ?_) fun _ _ e => e.elim)
    refine wpAny_bind (wpAny_tests_one (wpAny_mono (htr F _ H₂ s₃ ok st3) (fun c s₄ h => ?_) fun _ _ e => e.elim))
    obtain ⟨rfl, H₃, u3, st4⟩ := h
    exact wpAny_bind (wpAny_bind (wpAny_mono (app rfl rfl hc' he.m (l2.trans u3.sub) (hi'.mono u3.sub) st4) (fun x s₄ h₄ => wpAny_bind (wpAny_mono h₄ (fun _ s₅ h₅ => wpAny_pure (wpAny_pure ⟨rfl, h₅⟩)) fun _ _ e => e.elim)) fun _ _ e => e.elim))
  | skip hb hcs htr hc' =>
    subst hcs
    obtain ⟨u, hu, hw⟩ := h
    subst hu
    refine wpAny_bind (wpAny_mono hw (fun _ s₂ h => ?_) fun _ _ e => e.elim)
    obtain ⟨ι', H₂, l2, hi', st2⟩ := h
    refine wpAny_bind (wpAny_mono (hb.run ok st2) (fun _ s₃ st3 => ?_) fun _ _ e => e.elim)
    refine wpAny_bind (wpAny_tests_one (wpAny_mono (htr F _ H₂ s₃ ok st3) (fun c s₄ h => ?_) fun _ _ e => e.elim))
    obtain ⟨rfl, H₃, u3, st4⟩ := h
    have st5 : St F _ ((acc, .own xs) :: ι') H₃ s₄ := st4.perm (List.perm_append_comm (l₁ := ι') (l₂ := [(acc, B.own xs)]))
    exact wpAny_pure ⟨rfl, _, Nat.lt_succ_self _, _, _, _, _, ι', H₃, rfl, hc', hy, (hl.trans l2).trans u3.sub, hi'.mono u3.sub, st5⟩

end Mine
namespace Mine
variable {g : Gl} {n : Nat} {kn : Kn} {ρ ρ' ρ₁ ρ₂ ρ₃ ρ₄ : List (Str × B)}

theorem ItOk.self {F : Fx} {τ H s kd it vs ι} {Q : Value → Shared → Prop} (h : ItOk H kd it vs ι) (st : St F ρ (ι ++ τ) H s) (q : Q it s) : wpAny (model g.prog g.w) F.A (pyIter it) Q NoE s := by
  cases h with
  | list hc hd hl hdl hv =>
    obtain ⟨I', eI, ho⟩ := st.topDen
    cases eI
    exact wpAny_pyIter_listiter ⟨_, ho, hc, hd⟩ q
  | range hv =>
    obtain ⟨I', eI, ho⟩ := st.topDen
    cases eI
    exact wpAny_pyIter_rangeiter ho q
  | enum hc hd hl hdl hv =>
    obtain ⟨I', eI, ho⟩ := st.topDen
    cases eI
    exact wpAny_pyIter_enum ho q

/-- the names that a comprehension sees in its def's cells -/
structure Sees (kn : Kn) (ρ : List (Str × B)) (cn : Kn) (ρc : List (Str × B)) : Prop where
  names : (ρc.map (·.1)).Nodup
  each : ∀ e ∈ ρc, (∃ v, e.2 = .fz v) ∧ e ∈ ρ ∧ (e.1, NameKind.free) ∈ cn ∧ (remap kn cn).lookup e.1 = some .cell

def cEnv (kn : Kn) (scope : Scope) (env : Env) (L : Addr) (clo : List (Str × Addr)) : Env :=
  { scope := { scope with names := remap kn scope.names }, locals := L, globals := env.globals, cells := clo, qual := env.qual, func := none, code := env.code, frame := env.frame, builtins := env.builtins }

theorem mem_lookup {α : Type} {x : Str} {c : α} : ∀ {l : List (Str × α)}, (x, c) ∈ l → ∃ c', l.lookup x = some c' ∧ (x, c') ∈ l
  | (y, d) :: r, h => by
    rw [List.lookup_cons]
    cases hb : x == y with
    | true => exact ⟨d, rfl, by rw [beq_iff_eq.mp hb]; exact .head _⟩
    | false =>
      rcases List.mem_cons.mp h with e | h
      · cases e; simp at hb
      · obtain ⟨c', e1, e2⟩ := mem_lookup h
        exact ⟨c', e1, .tail _ e2⟩

theorem kvals {F : Fx} {ρ τ H s} (ok : Okk g n kn F) (st : St F ρ τ H s) {clo : List (Str × Addr)} {scope : Scope} (c1 : ∀ x c, (x, c) ∈ clo → F.env.cells.lookup x = some c) (c2 : ∀ x, (x, NameKind.free) ∈ scope.names → ∃ c, (x, c) ∈ clo) :
    ∀ (ρc : List (Str × B)), (∀ e ∈ ρc, (∃ v, e.2 = .fz v) ∧ e ∈ ρ ∧ (e.1, NameKind.free) ∈ scope.names ∧ (remap kn scope.names).lookup e.1 = some .cell) → (∀ x, (x, NameKind.free) ∈ scope.names → kn.lookup x = some .cell) →
      ∃ σ : List (Str × Value × B), bindsOf σ = ρc ∧ ∀ e ∈ σ, (∃ v, e.2.2 = .fz v ∧ Den H v e.2.1) ∧ (remap kn scope.names).lookup e.1 = some .cell ∧ ∃ c, clo.lookup e.1 = some c ∧ s.heap.IsCell c (some e.2.1)
  | [], _, _ => ⟨[], rfl, fun e h => nomatch h⟩
  | (x, b) :: ρc, h, hc => by
    obtain ⟨σ, e1, e2⟩ := kvals ok st c1 c2 ρc (fun e he => h e (.tail _ he)) hc
    obtain ⟨⟨v, hv⟩, hm, hf, hr⟩ := h (x, b) (.head _)
    simp only at hv hf hr
    subst hv
    obtain ⟨u, hs, d⟩ := st.look hm
    refine ⟨(x, u, .fz v) :: σ, by rw [← e1]; rfl, fun e he => ?_⟩
    rcases List.mem_cons.mp he with rfl | he
    · refine ⟨⟨v, rfl, d⟩, hr, ?_⟩
      obtain ⟨c, hcm⟩ := c2 x hf
      obtain ⟨c', hl, hm'⟩ := mem_lookup hcm
      refine ⟨c', hl, ?_⟩
      rcases hs with ⟨k, _⟩ | ⟨_, c'', hl', i⟩
      · rw [ok.kindOf, hc x hf] at k; cases k
      · have := c1 x c' hm'
        rw [hl'] at this; cases this
        exact i
    · exact e2 e he

theorem privs_fzs : ∀ {σ : List (Str × Value × B)}, (∀ e ∈ σ, ∃ v, e.2.2 = .fz v) → privs (σ.map (·.2)) = []
  | [], _ => rfl
  | (x, w, b) :: σ, h => by
    obtain ⟨v, hv⟩ := h _ (.head _)
    simp only at hv
    subst hv
    rw [List.map_cons, privs_fz]
    exact privs_fzs fun e he => h e (.tail _ he)

theorem comp_start {F : Fx} {ρ ρc τ H s H'} {s₂ : Shared} {ι : List (Value × B)} {scope : Scope} {clo : List (Str × Addr)} {h₄ : Heap} {tk : Nat} (ok : Okk g n kn F) (st : St F ρ τ H s) (u : Up H s H' s₂) (st2 : St F ρ (ι ++ τ) H' s₂) (fr : ∀ a ∈ privs ι, s.heap.get? a = none)
    (c1 : ∀ x c, (x, c) ∈ clo → F.env.cells.lookup x = some c) (c2 : ∀ x, (x, NameKind.free) ∈ scope.names → ∃ c, (x, c) ∈ clo) (hfree : ∀ x, (x, NameKind.free) ∈ scope.names → kn.lookup x = some .cell)
    (hsees : Sees kn ρ scope.names ρc) (hkind : scope.kind = .function) (hdot : (remap kn scope.names).lookup (".0" : Str) ≠ none)
    (hns : h₄.Ns (s₂.heap.objs.size + 1) (fun _ => none)) (hle : Le (s₂.heap.push { cls := .type "list", data := .seq #[] }).get? h₄.get?) :
    Okk g n (remap kn scope.names) { env := cEnv kn scope F.env (s₂.heap.objs.size + 1) clo, A := F.A, s₀ := s, H₀ := H, store := [s₂.heap.objs.size + 1] } ∧
    St { env := cEnv kn scope F.env (s₂.heap.objs.size + 1) clo, A := F.A, s₀ := s, H₀ := H, store := [s₂.heap.objs.size + 1] } ρc ((.ref s₂.heap.objs.size, .own []) :: ι) H' { s₂ with heap := h₄, toks := tk } := by
  have frs : ∀ j, s₂.heap.objs.size ≤ j → s.heap.get? j = none := fun j hj => by
    cases q : s.heap.get? j with
    | none => rfl
    | some o => exact absurd (Heap.lt_size (u.keep _ _ q)) (Nat.not_lt.mpr hj)
  have frH : ∀ j, s₂.heap.objs.size ≤ j → H' j = none := fun j hj => by
    cases q : H' j with
    | none => rfl
    | some o => exact absurd (Heap.lt_size (st2.le _ _ q)) (Nat.not_lt.mpr hj)
  have k4 : Le s₂.heap.get? h₄.get? := (push_le _ _).trans hle
  have cl : ∀ x c, clo.lookup x = some c → F.env.cells.lookup x = some c := fun x c e => c1 x c (mem_of_lookup e)
  have cel : ∀ x c, clo.lookup x = some c → ∃ v, s.heap.IsCell c v := fun x c e => st.cells x c (cl x c e)
  constructor
  · exact {
      kind := hkind
      locIn := .head _
      cellIn := fun x c e => by
        obtain ⟨v, o, ho, _⟩ := cel x c e
        exact .inr (by show (s.heap.get? c).isSome = true; rw [ho]; rfl)
      cellInj := fun x y c e1 e2 => ok.cellInj x y c (cl _ _ e1) (cl _ _ e2)
      cellNe := fun x c e q => by
        obtain ⟨v, o, ho, _⟩ := cel x c e
        have q' : c = s₂.heap.objs.size + 1 := q
        rw [q', frs _ (Nat.le_succ _)] at ho; cases ho
      gok := ok.gok
      room := ok.room
      names := rfl
      globals := ok.globals
      builtins := ok.builtins
      base := ok.baseH st
      h₀ := st.le
      owns := fun h => absurd h hdot }
  · obtain ⟨σ, e1, e2⟩ := kvals ok st c1 c2 ρc hsees.each hfree
    refine {
      le := st2.le.trans k4
      keep := u.keep.trans k4
      sub := u.sub
      new := u.new
      gens := st2.gens.trans st.gens.symm
      drawn := st2.drawn.trans st.drawn.symm
      os := st2.os.trans st.os.symm
      ns := ⟨_, hns⟩
      cells := fun x c e => let ⟨v, i⟩ := cel x c e; ⟨v, i.keeps (u.keep.trans k4)⟩
      vars := ⟨σ, e1, ?_, fun e he => ?_, ⟨fun p hp => ?_, ?_, fun a ha => ?_⟩⟩ }
    · have := hsees.names
      rw [← e1] at this
      simpa [bindsOf, List.map_map, Function.comp_def] using this
    · obtain ⟨_, hl, c, hc, i⟩ := e2 e he
      exact .inr ⟨hl, c, hc, i.keeps (u.keep.trans k4)⟩
    · rcases List.mem_append.mp hp with q | q
      · obtain ⟨e, he, rfl⟩ := List.mem_map.mp q
        obtain ⟨⟨v, hv, d⟩, _⟩ := e2 e he
        obtain ⟨x, w, b⟩ := e
        simp only at hv d
        subst hv
        exact Den.mono u.sub _ _ d
      · rcases List.mem_cons.mp q with rfl | q
        · exact ⟨_, [], rfl, ⟨0, hle _ _ (Heap.get?_push_size _ rfl)⟩, DenL.nil⟩
        · exact (st2.memDen (List.mem_append_left _ q)).mono (Le.refl _) k4
    · have p0 : privs (σ.map (·.2)) = [] := privs_fzs fun e he => let ⟨⟨v, hv, _⟩, _⟩ := e2 e he; ⟨v, hv⟩
      rw [privs_append, p0, List.nil_append, privs_ref rfl]
      have nd : (privs ι).Nodup := by
        obtain ⟨σ2, _, vs⟩ := st2.vars
        have := vs.good.nodup
        rw [privs_append, privs_append] at this
        exact (List.nodup_append.mp (List.nodup_append.mp (List.nodup_append.mp this).2.1).2.1).1
      have lt : ∀ a ∈ privs ι, a < s₂.heap.objs.size := fun a ha => by
        obtain ⟨p, hp, hb, e⟩ := privs_mem ha
        have := denB_some hb e (st2.memDen (List.mem_append_left _ hp))
        obtain ⟨o, ho⟩ := Option.isSome_iff_exists.mp this
        exact Heap.lt_size ho
      show ((s₂.heap.objs.size + 1) :: s₂.heap.objs.size :: privs ι).Nodup
      refine List.nodup_cons.mpr ⟨fun q => ?_, List.nodup_cons.mpr ⟨fun q => ?_, nd⟩⟩
      · rcases List.mem_cons.mp q with e | q
        · exact absurd e (Nat.succ_ne_self _)
        · exact absurd (lt _ q) (Nat.not_lt.mpr (Nat.le_succ _))
      · exact absurd (lt _ q) (Nat.lt_irrefl _)
    · have p0 : privs (σ.map (·.2)) = [] := privs_fzs fun e he => let ⟨⟨v, hv, _⟩, _⟩ := e2 e he; ⟨v, hv⟩
      rw [privs_append, p0, List.nil_append, privs_ref rfl] at ha
      have ha' : a = s₂.heap.objs.size + 1 ∨ a = s₂.heap.objs.size ∨ a ∈ privs ι := by
        rcases List.mem_cons.mp ha with e | q
        · exact .inl e
        · rcases List.mem_cons.mp q with e | q
          · exact .inr (.inl e)
          · exact .inr (.inr q)
      rcases ha' with rfl | rfl | q
      · refine ⟨frH _ (Nat.le_succ _), frs _ (Nat.le_succ _), ?_⟩
        obtain ⟨o, _, _, ho, _⟩ := hns
        show (h₄.get? _).isSome = true
        rw [ho]; rfl
      · exact ⟨frH _ (Nat.le_refl _), frs _ (Nat.le_refl _), by show (h₄.get? _).isSome = true; rw [hle _ _ (Heap.get?_push_size _ rfl)]; rfl⟩
      · obtain ⟨p, hp, hb, e⟩ := privs_mem q
        have hs := denB_some hb e (st2.memDen (List.mem_append_left _ hp))
        obtain ⟨o, ho⟩ := Option.isSome_iff_exists.mp hs
        have h1 : H' a = none := by
          obtain ⟨σ2, _, vs⟩ := st2.vars
          exact (vs.good.off a (by rw [privs_append, privs_append]; exact List.mem_append_right _ (List.mem_append_right _ (List.mem_append_left _ q)))).1
        exact ⟨h1, fr a q, by show (h₄.get? a).isSome = true; rw [k4 _ _ ho]; rfl⟩

end Mine
namespace Mine
variable {g : Gl} {n : Nat} {kn : Kn} {ρ ρ' ρ₁ ρ₂ ρ₃ ρ₄ : List (Str × B)}

theorem St.noVars {F : Fx} {τ H s} (st : St F ρ τ H s) : St F [] τ H s := by
  refine st.withVars ?_
  obtain ⟨σ, e, vs⟩ := st.vars
  exact ⟨[], rfl, List.nodup_nil, (fun e h => nomatch h), vs.good.less (List.sublist_append_right _ _)⟩

structure CompOk (kn : Kn) (scope : Scope) : Prop where
  kind : scope.kind = .function
  top : kn.lookup (".0" : Str) = none
  free : ∀ x, (x, NameKind.free) ∈ scope.names → kn.lookup x = some .cell
  dot : (remap kn scope.names).lookup (".0" : Str) ≠ none
  nc : ∀ x ∈ scope.names, x.2 ≠ .cell
  loc : ∀ x ∈ scope.names, x.2 = .local → (remap kn scope.names).lookup x.1 = some .local

theorem remap_eq {F : Fx} (ok : Okk g n kn F) (names : Kn) :
    (names.map fun x : Str × NameKind => match x with | (m, k) => if (k == NameKind.free && F.env.scope.kind == .function && F.env.kindOf m == some .cell) = true then (m, NameKind.cell) else (m, k)) = remap kn names := by
  unfold remap
  apply List.map_congr_left
  rintro ⟨m, k⟩ _
  dsimp only
  rw [ok.kindOf, ok.kind]
  simp

theorem comp_wp {F : Fx} {τ H s} {elt target iter : Expr} {cs : List Expr} {scope : Scope} {pos p' : Pos} {kd : Bool} {vs ys : List V} {ρc ρe : List (Str × B)} {use : Option (Value → Sem Unit)} {Q : Value → Shared → Prop}
    (ok : Okk g n kn F) (st : St F ρ τ H s) (h1 : EvIt g n kn ρ kd iter vs) (ht : Tgt kd target) (hc : CompR g n (remap kn scope.names) target cs elt vs ρc ys ρe) (hz : vs.length ≤ 1000000) (hs : Sees kn ρ scope.names ρc) (co : CompOk kn scope)
    (hset : ∀ env x, foldedSetIterable iter env x = pure x)
    (hend : ∀ s₅ H₅ a L oL m, Up H s H₅ s₅ → s.heap.get? a = none → s.heap.get? L = none → St F ρ ((.ref a, .own ys) :: (.ref L, .priv oL) :: τ) H₅ s₅ → s₅.heap.Ns L m → (match use with
      | none => ∀ h', Heap.SameBut L s₅.heap h' → Q (.ref a) { s₅ with heap := h' }
      | some u => wpAny (model g.prog g.w) F.A (u (.ref a)) (fun _ s₆ => s₆.heap.get? L = some oL ∧ ∀ h', Heap.SameBut L s₆.heap h' → Q .none { s₆ with heap := h' }) NoE s₅)) :
    wpAny (model g.prog g.w) F.A (comprehension (.ListComp elt [⟨target, iter, cs, 0⟩] scope pos) scope F.env p' (newList []) false (firstIter [⟨target, iter, cs, 0⟩] F.env) use) Q NoE s := by
  unfold comprehension
  refine wpAny_bind (wpAny_mono (h1 F τ H s ok st) (fun x s₁ h => ?_) fun _ _ e => e)
  refine wpAny_bind (wpAny_standAt ?_)
  refine wpAny_bind (wpAny_of_eq (hset F.env x) ?_)
  refine wpAny_bind (wpAny_holding (wpAny_mono h (fun it s₂ h => ?_) fun _ _ e => e))
  obtain ⟨ι, H₂, u2, fr, hi, st2⟩ := h
  dsimp only
  refine wpAny_standIf ?_
  refine wpAny_bind (wpAny_newList (items := []) ?_)
  refine wpAny_bind (wpAny_mono (closure_wp (F := F) (scope := scope) (fun x hx => ?_)) (fun clo s₃ h => ?_) fun _ _ e => e)
  · obtain ⟨c, hc', _⟩ := ok.owns co.top x (co.free x hx)
    exact ⟨c, hc'⟩
  obtain ⟨rfl, c1, c2⟩ := h
  refine wpAny_bind (wpAny_newFunctionEnv co.nc (fun x hx => nomatch hx) (fun h₄ hns hsb => ?_) co.kind)
  have hsz : (s₂.heap.push { cls := .type "list", data := .seq ([] : List Value).toArray }).objs.size = s₂.heap.objs.size + 1 := Heap.size_push ..
  rw [hsz] at hns hsb
  have hle : Le (s₂.heap.push { cls := .type "list", data := .seq #[] }).get? h₄.get? := fun b o e => by
    have hb : b < s₂.heap.objs.size + 1 := by
      have := Heap.lt_size e
      rw [Heap.size_push] at this; exact this
    rw [hsb.2 b (Nat.ne_of_lt hb)]
    exact Heap.get?_push_of_some _ e
  have hns' : h₄.Ns (s₂.heap.objs.size + 1) (fun _ => none) := hns
  obtain ⟨okc, stc⟩ := comp_start (tk := s₂.toks) ok st u2 st2 fr c1 c2 co.free hs co.kind co.dot hns' hle
  simp only [newEnv, hsz, remap_eq ok]
  have hl0 : Le H₂ H₂ := Le.refl _
  have cl := comp_loop (ysAll := ys) (H₀ := H₂) (elt := elt) (target := target) (iter := iter) (cs := cs) (scope := scope) (pos := pos) (it := it) (acc := .ref s₂.heap.objs.size) (kd := kd) okc ht (R := fun r s' => match r with
      | .ok _ => ∃ H₅, St { env := cEnv kn scope F.env (s₂.heap.objs.size + 1) clo, A := F.A, s₀ := s, H₀ := H, store := [s₂.heap.objs.size + 1] } [] [(.ref s₂.heap.objs.size, .own ys)] H₅ s'
      | .error _ => False) (fun s' H' _ st' => ⟨H', st'.noVars⟩) hc rfl (Nat.le_trans hc.len hz) (Le.refl H₂) hi stc
  have hm : F.A.mark none = F.A := rfl
  have sf : ∀ sx, St { env := cEnv kn scope F.env (s₂.heap.objs.size + 1) clo, A := F.A, s₀ := s, H₀ := H, store := [s₂.heap.objs.size + 1] } ρc ((.ref s₂.heap.objs.size, .own []) :: ι) H₂ sx → wpAny (model g.prog g.w) F.A (pyIter it) (fun it' s' => it' = it ∧ s' = sx) NoE sx :=
    fun sx stx => ItOk.self hi (F := { env := cEnv kn scope F.env (s₂.heap.objs.size + 1) clo, A := F.A, s₀ := s, H₀ := H, store := [s₂.heap.objs.size + 1] }) (τ := []) (by rw [List.append_nil]; exact stx.pop) ⟨rfl, rfl⟩
  refine wpAny_holding (wpAny_bind (wpAny_attempt (wpAny_holding (wpAny_run (codeAny_mono (codeAny_compStart_list cl (wpAny_mono (sf _ stc) (fun it' s' e => by obtain ⟨rfl, rfl⟩ := e; exact cl) fun _ _ e => e.elim)) fun r s' h => ?_)))))
  cases r with
  | error x => exact h.elim
  | ok f =>
    obtain ⟨H₅, st5⟩ := h
    have cp : CallPost H s H₅ s' := post_call0 st5
    obtain ⟨m, hm5⟩ := st5.ns
    obtain ⟨σ5, _, vs5⟩ := st5.vars
    have off := vs5.good.off
    have e5 : privs (σ5.map (·.2) ++ [(Value.ref s₂.heap.objs.size, B.own ys)]) = privs (σ5.map (·.2)) ++ [s₂.heap.objs.size] := by rw [privs_append]; rfl
    have offa := off s₂.heap.objs.size (List.mem_append_right _ (by rw [e5]; exact List.mem_append_right _ (.head _)))
    have offL := off (s₂.heap.objs.size + 1) (List.mem_append_left _ (.head _))
    obtain ⟨oL, hoL⟩ := Option.isSome_iff_exists.mp offL.2.2
    have pe : privs [(Value.ref s₂.heap.objs.size, B.own ys), (Value.ref (s₂.heap.objs.size + 1), B.priv oL)] = [s₂.heap.objs.size, s₂.heap.objs.size + 1] := rfl
    have stg : St F ρ ([(Value.ref s₂.heap.objs.size, B.own ys), (Value.ref (s₂.heap.objs.size + 1), B.priv oL)] ++ τ) H₅ s' := by
      refine st.graft cp ?_ ?_ ?_
      · rw [pe]; refine List.nodup_cons.mpr ⟨fun q => ?_, List.nodup_cons.mpr ⟨(fun q => nomatch q), List.nodup_nil⟩⟩
        rcases List.mem_cons.mp q with e | q
        · exact absurd e (Nat.ne_of_lt (Nat.lt_succ_self _))
        · cases q
      · rw [pe]
        intro a ha
        rcases List.mem_cons.mp ha with rfl | ha
        · exact ⟨offa.1, offa.2.1⟩
        · rcases List.mem_cons.mp ha with rfl | ha
          · exact ⟨offL.1, offL.2.1⟩
          · cases ha
      · intro p hp
        rcases List.mem_cons.mp hp with rfl | hp
        · exact st5.topDen
        · rcases List.mem_cons.mp hp with rfl | hp
          · exact ⟨_, rfl, hoL⟩
          · cases hp
    have fin := hend s' H₅ _ _ oL m ⟨cp.sub, cp.keep, cp.new⟩ offa.2.1 offL.2.1 stg hm5
    have locs : ∀ x ∈ List.filter (fun x : Str × NameKind => (x.snd == NameKind.local || x.snd == NameKind.cell) && x.fst != Str.ofString ".0") scope.names, x.2 = .local → (cEnv kn scope F.env (s₂.heap.objs.size + 1) clo).kindOf x.1 = some .local := fun x hx e => co.loc x ((List.mem_filter.mp hx).1) e
    dsimp only
    cases use with
    | none =>
      dsimp only at fin ⊢
      refine wpAny_bind (wpAny_holding (wpAny_comp_letGo (cenv := cEnv kn scope F.env (s₂.heap.objs.size + 1) clo) co.kind _ _ m (fun x hx e => locs x (List.mem_reverse.mp hx) e) hm5 fun h' m' hn hsb => wpAny_pure (fin h' hsb)))
    | some u =>
      dsimp only at fin ⊢
      refine wpAny_bind (wpAny_rule (wpAny_bind (wpAny_holding (wpAny_mono fin (fun _ s₆ h => ?_) fun _ _ e => e))))
      obtain ⟨h6, h7⟩ := h
      have hm6 : s₆.heap.Ns (s₂.heap.objs.size + 1) m := by
        obtain ⟨o, k, q, ho, r⟩ := hm5
        have ho' : s'.heap.get? (s₂.heap.objs.size + 1) = some o := ho
        rw [hoL] at ho'
        cases ho'
        exact ⟨_, k, q, h6, r⟩
      refine wpAny_bind (wpAny_comp_letGo (cenv := cEnv kn scope F.env (s₂.heap.objs.size + 1) clo) co.kind _ _ m (fun x hx e => locs x ?_ e) hm6 fun h' m' hn hsb => wpAny_pure (h7 h' hsb))
      rcases List.mem_append.mp hx with q | q
      · exact List.mem_reverse.mp (List.mem_of_mem_drop q)
      · exact List.mem_reverse.mp (List.mem_of_mem_take q)

end Mine
namespace Mine
variable {g : Gl} {n : Nat} {kn : Kn} {ρ ρ' ρ₁ ρ₂ ρ₃ ρ₄ : List (Str × B)}

theorem St.dropPriv {F : Fx} (ok : F.Ok) {τ H} {s : Shared} {p : Value × B} {L : Addr} {oL : Obj} {h' : Heap} (st : St F ρ (p :: (.ref L, .priv oL) :: τ) H s) (hs : Heap.SameBut L s.heap h') : St F ρ (p :: τ) H { s with heap := h' } := by
  have st' : St F ρ ([(.ref L, .priv oL)] ++ (p :: τ)) H s := st.perm (List.Perm.swap ..)
  exact st'.updN ok (ι' := []) (List.nil_sublist _) (fun b o hb e => by rw [hs.2 b (fun q => hb (by subst q; exact .head _))]; exact e) (fun p hp => nomatch hp)
theorem St.dropPriv0 {F : Fx} (ok : F.Ok) {τ H} {s : Shared} {L : Addr} {oL : Obj} {h' : Heap} (st : St F ρ ((.ref L, .priv oL) :: τ) H s) (hs : Heap.SameBut L s.heap h') : St F ρ τ H { s with heap := h' } := by
  have st' : St F ρ ([(.ref L, .priv oL)] ++ τ) H s := st
  exact st'.updN ok (ι' := []) (List.nil_sublist _) (fun b o hb e => by rw [hs.2 b (fun q => hb (by subst q; exact .head _))]; exact e) (fun p hp => nomatch hp)

theorem EvO_comp {elt target iter : Expr} {cs : List Expr} {scope : Scope} {pos : Pos} {kd : Bool} {vs ys : List V} {ρc ρe : List (Str × B)}
    (h1 : EvIt g n kn ρ kd iter vs) (ht : Tgt kd target) (hs : Sees kn ρ scope.names ρc) (co : CompOk kn scope) (hc : CompR g n (remap kn scope.names) target cs elt vs ρc ys ρe) (hz : vs.length ≤ 1000000)
    (hset : ∀ env x, foldedSetIterable iter env x = pure x := by intros; rfl) : EvO g n kn ρ (.ListComp elt [⟨target, iter, cs, 0⟩] scope pos) ys := by
  intro F τ H s ok st
  rw [eval_ListComp]
  refine comp_wp (use := none) ok st h1 ht hc hz hs co hset fun s₅ H₅ a L oL m u fa fL st5 hn h' hsb => ?_
  refine ⟨H₅, ⟨u.sub, fun b o e => ?_, u.new⟩, ⟨a, rfl, fa⟩, st5.dropPriv ok.toOk hsb⟩
  rw [hsb.2 b (fun q => by subst q; rw [fL] at e; cases e)]
  exact u.keep _ _ e

theorem Ex_assignComp {x : Str} {p' p : Pos} {elt target iter : Expr} {cs : List Expr} {scope : Scope} {pos : Pos} {kd : Bool} {vs ys : List V} {ρc ρe : List (Str × B)}
    (h1 : EvIt g n kn ρ kd iter vs) (ht : Tgt kd target) (hsee : Sees kn ρ scope.names ρc) (co : CompOk kn scope) (hc : CompR g n (remap kn scope.names) target cs elt vs ρc ys ρe) (hz : vs.length ≤ 1000000) (hs : Sto kn x (.own ys) ρ ρ₁)
    (hk : kn.lookup x = some .local := by rfl) (hl : (p'.line == pos.line) = true := by rfl) (hno : (scope.names.any fun y => y.1 == x && (y.2 == .local || y.2 == .cell)) = false := by rfl)
    (hset : ∀ env x, foldedSetIterable iter env x = pure x := by intros; rfl) : Ex g n kn ρ (.Assign [.Name x p'] (.ListComp elt [⟨target, iter, cs, 0⟩] scope pos) p) .next ρ₁ := by
  intro F τ H s ok st
  have hsw : swapsWith (.ListComp elt [⟨target, iter, cs, 0⟩] scope pos) (some (.Name x p')) p.line F.env = pure true := by
    have e1 : F.env.kindOf x = some .local := (ok.kindOf x).trans hk
    have e2 : F.env.blockKind = .function := by unfold Env.blockKind; rw [ok.kind]; rfl
    unfold swapsWith
    dsimp only
    rw [e1, e2]
    have e3 : (Expr.ListComp elt [⟨target, iter, cs, 0⟩] scope pos).pos.line = pos.line := rfl
    rw [e3, hl]
    have e4 : (scope.names.any fun (n, k) => n == x && (k == .local || k == .cell)) = false := hno
    rw [e4]
    rfl
  rw [exec_Assign_Name_used _ _ _ _ hsw]
  refine wpAny_bind (wpAny_standAt (wpAny_bind ?_))
  show wpAny _ _ (do let _ ← comprehension (.ListComp elt [⟨target, iter, cs, 0⟩] scope pos) scope F.env _ (newList []) false (firstIter [⟨target, iter, cs, 0⟩] F.env) (some (assign (.Name x p') F.env))) _ _ s
  have kx : keepsK kn x = true := by unfold keepsK; rw [hk]
  refine wpAny_bind (comp_wp ok st h1 ht hc hz hsee co hset fun s₅ H₅ a L oL m u fa fL st5 hn => ?_)
  refine wpAny_assign_Name (hs.run ok (keeps_of ok kx) st5 fun s₆ st6 => ⟨?_, fun h' hsb => ?_⟩)
  · obtain ⟨a', e, q⟩ := st6.topDen
    cases e; exact q
  · exact wpAny_pure (wpAny_pure ⟨H₅, u.sub, st6.dropPriv0 ok.toOk hsb⟩)

end Mine
namespace Mine
variable {g : Gl} {n : Nat} {kn : Kn} {ρ ρ' ρ₁ ρ₂ : List (Str × B)}

-- defs with cells
theorem bindL_skip {k : Str → Option NameKind} {x : Str} : ∀ {l : List (Str × Value)} {m : Str → Option Value}, x ∉ l.map (·.1) → bindL k l m x = m x
  | [], _, _ => rfl
  | (y, v) :: r, m, h => by
    have h1 : x ≠ y := fun q => h (by subst q; exact .head _)
    have h2 : x ∉ r.map (·.1) := fun q => h (.tail _ q)
    unfold bindL
    rw [bindL_skip h2]
    split
    · exact if_neg h1
    · rfl
theorem bindC_skip {k : Str → Option NameKind} {x : Str} : ∀ {l : List (Str × Value)} {m : Str → Option Value}, x ∉ l.map (·.1) → bindC k l m x = m x
  | [], _, _ => rfl
  | (y, v) :: r, m, h => by
    have h1 : x ≠ y := fun q => h (by subst q; exact .head _)
    have h2 : x ∉ r.map (·.1) := fun q => h (.tail _ q)
    unfold bindC
    rw [bindC_skip h2]
    split
    · rfl
    · exact if_neg h1
theorem bindL_get {k : Str → Option NameKind} {x : Str} {v : Value} (hk : k x = some .local) : ∀ {l : List (Str × Value)} {m : Str → Option Value}, (l.map (·.1)).Nodup → (x, v) ∈ l → bindL k l m x = some v
  | [], _, _, h => nomatch h
  | (y, w) :: r, m, hn, h => by
    rw [List.map_cons, List.nodup_cons] at hn
    unfold bindL
    rcases List.mem_cons.mp h with e | h
    · cases e
      rw [bindL_skip hn.1, if_pos hk]
      exact if_pos rfl
    · exact bindL_get hk hn.2 h
theorem bindC_get {k : Str → Option NameKind} {x : Str} {v : Value} (hk : k x = some .cell) : ∀ {l : List (Str × Value)} {m : Str → Option Value}, (l.map (·.1)).Nodup → (x, v) ∈ l → bindC k l m x = some v
  | [], _, _, h => nomatch h
  | (y, w) :: r, m, hn, h => by
    rw [List.map_cons, List.nodup_cons] at hn
    unfold bindC
    rcases List.mem_cons.mp h with e | h
    · cases e
      rw [bindC_skip hn.1, if_neg (by rw [hk]; decide)]
      exact if_pos rfl
    · exact bindC_get hk hn.2 h
theorem cellsFrom_has {x : Str} : ∀ (l : List (Str × NameKind)) (m : Nat) (acc : List (Str × Addr)), ((x, NameKind.cell) ∈ l ∨ (acc.lookup x).isSome = true) → ((cellsFrom m l acc).lookup x).isSome = true
  | [], _, _, h => by
    rcases h with h | h
    · cases h
    · exact h
  | (y, k) :: r, m, acc, h => by
    unfold cellsFrom
    split
    · rename_i hk
      refine cellsFrom_has r _ _ ?_
      rcases h with h | h
      · rcases List.mem_cons.mp h with e | h
        · cases e; right; rw [List.lookup_cons]; simp
        · exact .inl h
      · right
        rw [List.lookup_cons]
        cases x == y
        · exact h
        · rfl
    · rename_i hk
      refine cellsFrom_has r _ _ ?_
      rcases h with h | h
      · rcases List.mem_cons.mp h with e | h
        · cases e; exact absurd rfl hk
        · exact .inl h
      · exact .inr h

/-- the frame of a def with cells at its start -/
theorem start_cells {A : Around} {s s₁ : Shared} {H : PH} {env : Env} {names : List Str} {xs : List V} {vals : List Value}
    (x : InCallC s env.locals (bindL env.kindOf (names.zip vals) fun _ => none) env.cells (bindC env.kindOf (names.zip vals) fun _ => none) s₁)
    (hL : env.locals = s.heap.objs.size) (le : Le H s.heap.get?) (d : DenL H xs vals) (hl : names.length = xs.length) (hn : names.Nodup)
    (hk : ∀ y ∈ names, env.kindOf y = some .local ∨ (env.kindOf y = some .cell ∧ (env.cells.lookup y).isSome = true)) (hcn : (env.cells.map (·.1)).Nodup) :
    St { env, A, s₀ := s, H₀ := H, store := s.heap.objs.size :: env.cells.map (·.2) } (bindV names xs) [] H s₁ := by
  obtain ⟨h', tk, rfl⟩ := x.toInCall.same
  have keep : Le s.heap.get? h'.get? := x.toInCall.keep
  have hlen : vals.length = xs.length := d.length
  have hns := x.toInCall.ns
  have lk : ∀ y c, (y, c) ∈ env.cells → env.cells.lookup y = some c := fun y c h => by
    clear x hk
    generalize env.cells = l at h hcn
    induction l with
    | nil => cases h
    | cons p r ih =>
      obtain ⟨z, e⟩ := p
      rw [List.map_cons, List.nodup_cons] at hcn
      rw [List.lookup_cons]
      rcases List.mem_cons.mp h with q | q
      · cases q; simp
      · have : (y == z) = false := beq_eq_false_iff_ne.mpr fun e => hcn.1 (by rw [← e]; exact List.mem_map.mpr ⟨_, q, rfl⟩)
        rw [this]
        exact ih q hcn.2
  exact {
    le := le.trans keep
    keep := keep
    sub := Le.refl H
    new := fun b hb => .inl hb
    gens := rfl
    drawn := rfl
    os := rfl
    ns := ⟨_, hns⟩
    cells := fun y c e => ⟨_, x.cell y c e⟩
    vars := by
      refine ⟨names.zip (vals.zip (xs.map B.fz)), sig_zip hlen, ?_, fun e he => ?_, ?_⟩
      · rw [zip_fst hlen hl]; exact hn
      · obtain ⟨m1, y, e1, d1⟩ := mem_zip3 d he
        have hf : ((names.zip vals).map (·.1)) = names := List.map_fst_zip (by omega)
        rcases hk _ (List.of_mem_zip m1).1 with k | ⟨k, c⟩
        · exact .inl ⟨k, _, hns, bindL_get k (by rw [hf]; exact hn) m1⟩
        · obtain ⟨c, hc⟩ := Option.isSome_iff_exists.mp c
          refine .inr ⟨k, c, hc, ?_⟩
          have := x.cell _ c hc
          rw [bindC_get k (by rw [hf]; exact hn) m1] at this
          exact this
      · refine ⟨fun p hp => ?_, ?_, fun a ha => ?_⟩
        · rw [List.append_nil] at hp
          obtain ⟨e, he, rfl⟩ := List.mem_map.mp hp
          obtain ⟨m1, y, e1, d1⟩ := mem_zip3 d he
          obtain ⟨z, v, b⟩ := e
          simp only at e1 d1
          subst e1
          exact d1
        · rw [List.append_nil, privs_allFz, List.append_nil]
          refine List.nodup_cons.mpr ⟨fun q => ?_, ?_⟩
          · obtain ⟨⟨y, c⟩, hm, e⟩ := List.mem_map.mp q
            have := x.above y c hm
            rw [hL] at this
            have e' : c = s.heap.objs.size := e
            rw [e'] at this
            exact Nat.lt_irrefl _ this
          · exact List.pairwise_map.mpr x.apart
        · rw [List.append_nil, privs_allFz, List.append_nil] at ha
          have hsz : s.heap.objs.size ≤ a ∧ (h'.get? a).isSome = true := by
            rcases List.mem_cons.mp ha with rfl | q
            · obtain ⟨o, es, ep, ho, _⟩ := hns
              exact ⟨Nat.le_refl _, by rw [← hL]; show (h'.get? env.locals).isSome = true; rw [show h'.get? env.locals = some o from ho]; rfl⟩
            · obtain ⟨⟨y, c⟩, hm, rfl⟩ := List.mem_map.mp q
              have h1 := x.above y c hm
              obtain ⟨o, ho, _⟩ := x.cell y c (lk y c hm)
              exact ⟨by rw [hL] at h1; exact Nat.le_of_lt h1, by show (h'.get? c).isSome = true; rw [show h'.get? c = some o from ho]; rfl⟩
          have h0 : s.heap.get? a = none := Heap.get?_none_of_le hsz.1
          refine ⟨?_, h0, hsz.2⟩
          cases q : H a with
          | none => rfl
          | some o' => have := le _ _ q; rw [h0] at this; cases this }

theorem Fn_ofC {d : DefRec} {names : List Str} {xs : List V} {y : V} {f : Fl} (hd : d ∈ defsOf) {a : Addr} (ha : g.mg d.name = some (.ref a))
    (hb : ∀ pm code doc vals, vals.length = xs.length → bindArgs (docDef d.name d.params d.body d.scope pm code doc) ⟨vals, []⟩ = pure (names.zip vals))
    (hl : names.length = xs.length) (hn : names.Nodup) (hk : ∀ x ∈ names, d.scope.names.lookup x = some .local ∨ d.scope.names.lookup x = some .cell)
    (hcn : ∀ L, ((cellsFrom (L + 1) d.scope.names []).map (·.1)).Nodup)
    (hbody : Exs g n d.scope.names (bindV names xs) d.body f ρ') (hy : Gives y f)
    (hco : d.scope.isCoroutine = false) (hgen : d.scope.isGenerator = false) (hkind : d.scope.kind = .function) :
    Fn g (n + 1) (.ref a) xs y := by
  intro A H s vals go room base le den
  obtain ⟨a', o, pm, code, doc, hm, ho, hdat, hcd⟩ := go.fn d hd
  rw [ha] at hm
  cases hm
  have hbl : Le g.base.get? s.heap.get? := base.trans le
  have hcell : ∀ x, d.scope.names.lookup x = some .cell → ((cellsFrom (s.heap.objs.size + 1) d.scope.names []).lookup x).isSome = true := fun x hx => cellsFrom_has _ _ _ (.inl (mem_of_lookup hx))
  refine wpAny_call ?_
  refine codeAny_call_cells (by have := room.2.1; omega) (hbl _ _ ho) hdat (go.nolimit.keeps hbl) (hcd.keeps hbl) rfl (hb pm code doc vals den.length) rfl ?_ (fun s₁ x => ?_) hco hgen hkind
  · intro x hx
    rcases hk _ (List.of_mem_zip hx).1 with q | q
    · exact .inl q
    · exact .inr ⟨q, hcell _ q⟩
  · have st := start_cells (A := A.deeper (callEnvC (docDef d.name d.params d.body d.scope pm code doc) s.heap.objs.size a)) (env := callEnvC (docDef d.name d.params d.body d.scope pm code doc) s.heap.objs.size a) x rfl le den hl hn
      (fun y hy => by
        rcases hk y hy with q | q
        · exact .inl q
        · exact .inr ⟨q, hcell _ q⟩) (hcn _)
    have ok : Okk g n d.scope.names { env := callEnvC (docDef d.name d.params d.body d.scope pm code doc) s.heap.objs.size a, A := A.deeper (callEnvC (docDef d.name d.params d.body d.scope pm code doc) s.heap.objs.size a), s₀ := s, H₀ := H, store := s.heap.objs.size :: (cellsFrom (s.heap.objs.size + 1) d.scope.names []).map (·.2) } := {
      kind := hkind
      locIn := .head _
      cellIn := fun x c e => .inl (.tail _ (List.mem_map.mpr ⟨_, mem_of_lookup e, rfl⟩))
      cellInj := fun y z c e1 e2 => name_of_addr x.apart (mem_of_lookup e1) (mem_of_lookup e2)
      cellNe := fun y c e => (Nat.ne_of_lt (x.above y c (mem_of_lookup e))).symm
      gok := go
      room := room.deeper
      names := rfl
      globals := rfl
      builtins := rfl
      base := base
      h₀ := le
      owns := fun _ y hy => by
        obtain ⟨c, hc⟩ := Option.isSome_iff_exists.mp (hcell y hy)
        exact ⟨c, hc, .tail _ (List.mem_map.mpr ⟨_, mem_of_lookup hc, rfl⟩)⟩ }
    refine wpAny_mono (hbody _ [] H _ ok st) (fun fl s' h => ?_) fun _ _ e => e.elim
    obtain ⟨H', l, p⟩ := h
    cases hy with
    | ret =>
      cases fl with
      | ret v => obtain ⟨cp, dn⟩ := post_call p; exact ⟨H', cp, dn⟩
      | next => exact p.elim
      | brk => exact p.elim
      | cont => exact p.elim
    | none e =>
      cases fl with
      | next => exact ⟨H', post_call0 p, by rw [e]; simp only [Den]⟩
      | ret v => exact p.elim
      | brk => exact p.elim
      | cont => exact p.elim

end Mine
namespace Mine
variable {g : Gl} {n : Nat} {kn : Kn} {ρ ρ' ρ₁ ρ₂ ρc ρe : List (Str × B)}

-- what turns a list of the frame's own
theorem St.ownOff {F : Fx} {τ H s x xs Y} (st : St F ρ τ H s) (hx : (x, B.own xs) ∈ ρ) (hY : Stored F.env s.heap x (.ref Y)) :
    Y ∉ F.store ∧ H Y = none ∧ F.s₀.heap.get? Y = none ∧ (∃ items m, s.heap.get? Y = some (listO items m) ∧ DenL H xs items) ∧ Y ∉ privs τ := by
  obtain ⟨σ, e, vs⟩ := st.vars
  subst e
  obtain ⟨⟨y, w, b⟩, hm, he⟩ := List.mem_map.mp hx
  have q1 : x = y := (congrArg Prod.fst he).symm
  have q2 : B.own xs = b := (congrArg Prod.snd he).symm
  subst q1
  subst q2
  obtain ⟨a, items, rfl, ⟨m, ha⟩, d⟩ := vs.good.den (w, .own xs) (List.mem_append_left _ (List.mem_map.mpr ⟨_, hm, rfl⟩))
  have e2 := (vs.stored _ hm).fun_ hY
  cases e2
  have hp1 : Y ∈ privs (σ.map (·.2)) := mem_privs (b := .own xs) rfl (List.mem_map.mpr ⟨_, hm, rfl⟩)
  have hp : Y ∈ privs (σ.map (·.2) ++ τ) := by rw [privs_append]; exact List.mem_append_left _ hp1
  have o := vs.good.off Y (List.mem_append_right _ hp)
  refine ⟨fun q => (List.nodup_append.mp vs.good.nodup).2.2 Y q Y hp rfl, o.1, o.2.1, ⟨items, m, ha, d⟩, fun q => ?_⟩
  have nd := (List.nodup_append.mp vs.good.nodup).2.1
  rw [privs_append] at nd
  exact (List.nodup_append.mp nd).2.2 Y hp1 Y q rfl

theorem St.callMG {F : Fx} (ok : F.Ok) {τ H H' s s' x xs xs' Y items' m'} {ι : List (Value × B)} (nd : (privs ι).Nodup) (off : ∀ a ∈ privs ι, H' a = none ∧ s.heap.get? a = none) (dι : ∀ p ∈ ι, DenB H' s'.heap.get? p) (st : St F ρ τ H s) (hx : (x, B.own xs) ∈ ρ) (hY : Stored F.env s.heap x (.ref Y)) (p : Put x (.own xs') ρ ρ₁)
    (sub : Le H H') (le : Le H' s'.heap.get?) (keep : LeBut Y s.heap.get? s'.heap.get?) (new : ∀ b, H' b ≠ none → H b ≠ none ∨ s.heap.get? b = none) (ha : s'.heap.get? Y = some (listO items' m')) (hd : DenL H' xs' items')
    (e1 : s'.gens = s.gens) (e2 : s'.drawn = s.drawn) (e3 : s'.os = s.os) : St F ρ₁ (ι ++ τ) H' s' := by
  obtain ⟨_, hHY, _, ⟨items, m, hY0, _⟩, _⟩ := st.ownOff hx hY
  have hH' : H' Y = none := by
    cases q : H' Y with
    | none => rfl
    | some o =>
      rcases new Y (by rw [q]; exact fun x => nomatch x) with h | h
      · exact absurd hHY h
      · rw [hY0] at h; cases h
  have g1 : (s'.heap.update Y fun _ => listO items m).get? Y = some (listO items m) := Heap.get?_update_self _ ha rfl
  have g2 : ∀ b, b ≠ Y → (s'.heap.update Y fun _ => listO items m).get? b = s'.heap.get? b := fun b hb => Heap.get?_update_other _ _ (Ne.symm hb)
  have cp : CallPost H s H' { s' with heap := s'.heap.update Y fun _ => listO items m } := {
    sub := sub
    le := fun b o e => by
      have hb : b ≠ Y := fun q => by subst q; rw [hH'] at e; cases e
      show (s'.heap.update Y fun _ => listO items m).get? b = some o
      rw [g2 b hb]; exact le _ _ e
    keep := fun b o e => by
      show (s'.heap.update Y fun _ => listO items m).get? b = some o
      by_cases hb : b = Y
      · subst hb; rw [hY0] at e; rw [g1, e]
      · rw [g2 b hb]; exact keep b o hb e
    new := new
    gens := e1
    drawn := e2
    os := e3 }
  have st1 := st.graft cp nd off fun q hq => (dι q hq).but (a := Y) (fun b o hb e => by
      show (s'.heap.update Y fun _ => listO items m).get? b = some o
      rw [g2 b hb]; exact e) fun b hb e r => by
    subst r
    have := (off b (mem_privs hb (by rw [← e]; exact hq))).2
    rw [hY0] at this; cases this
  obtain ⟨a, it, k, hs, h1, h2, up⟩ := st1.ownName ok hx
  have hsY : Stored F.env (s'.heap.update Y fun _ => listO items m) x (.ref Y) := hY.mono cp.keep
  cases hs.fun_ hsY
  refine up s' items' m' xs' ρ₁ (fun b o hb e => ?_) ha hd p rfl rfl rfl
  have e' : (s'.heap.update Y fun _ => listO items m).get? b = some o := e
  rw [g2 b hb] at e'
  exact e'

theorem St.callM {F : Fx} (ok : F.Ok) {τ H H' s s' x xs xs' Y items' m'} (st : St F ρ τ H s) (hx : (x, B.own xs) ∈ ρ) (hY : Stored F.env s.heap x (.ref Y)) (p : Put x (.own xs') ρ ρ₁)
    (sub : Le H H') (le : Le H' s'.heap.get?) (keep : LeBut Y s.heap.get? s'.heap.get?) (new : ∀ b, H' b ≠ none → H b ≠ none ∨ s.heap.get? b = none) (ha : s'.heap.get? Y = some (listO items' m')) (hd : DenL H' xs' items')
    (e1 : s'.gens = s.gens) (e2 : s'.drawn = s.drawn) (e3 : s'.os = s.os) : St F ρ₁ τ H' s' :=
  st.callMG ok (ι := []) List.nodup_nil (fun a h => nomatch h) (fun p h => nomatch h) hx hY p sub le keep new ha hd e1 e2 e3

/-- a call's contract that turns a list given it (place and items): an int out, nothing else that stood changed -/
def NextC (g : Gl) (n : Nat) (f : Value) (many k : Int) (ps : List Int) (r : Int) : Prop :=
  ∀ A H s Y items m u, g.Ok → Room n A → Le g.base.get? H → Le H s.heap.get? → H Y = none → s.heap.get? Y = some (listO items m) → DenL H [.int k, .list (ps.map .int)] items → Den H (.int many) u →
    wpAny (model g.prog g.w) A (call f [.ref Y, u]) (fun v s' => LeBut Y s.heap.get? s'.heap.get? ∧ s'.gens = s.gens ∧ s'.drawn = s.drawn ∧ s'.os = s.os ∧
      ∃ items' m', s'.heap.get? Y = some (listO items' m') ∧ DenL H [.int (k + 1), .list (ps.map .int)] items' ∧ Den H (.int r) v) NoE s

theorem EvM_next {f e : Expr} {x : Str} {q : Pos} {p : Pos} {fv : Value} {many k r : Int} {ps : List Int} (h1 : Ev g n kn ρ f (.fz (.raw fv))) (hx : (x, B.own [.int k, .list (ps.map .int)]) ∈ ρ) (h2 : EvF g n kn ρ [e] [.int many]) (hc : Callable g fv) (h3 : NextC g n fv many k ps r)
    (hp' : Put x (.own [.int (k + 1), .list (ps.map .int)]) ρ ρ₁)
    (hcall : ∀ env, eval (.Call f (.Name x q :: [e]) [] p) env = (do callWith p (← eval f env) [] (backTo p (starEach (.Name x q :: [e]) env)) (backToKw p (keywordEach [] env))) := by intro _; rfl)
    (he : ∀ env, starEach (.Name x q :: [e]) env = (false, eval (.Name x q) env) :: starEach [e] env := by intro _; rfl) (hp : ∀ env, (backTo p (starEach [e] env)).any (·.1) = false := by intro _; rfl) (hd : (x == ("__debug__" : Str)) = false := by decide) :
    EvM g n kn ρ (.Call f [.Name x q, e] [] p) (.fz (.int r)) ρ₁ := by
  intro F τ H s ok st
  refine Call_ (wpAny_mono (h1 F τ H s ok st) (fun v s₁ h => ?_) fun _ _ e => e) (hcall _)
  obtain ⟨H₁, u1, st1⟩ := h
  cases den_raw st1.topFz
  have st1 := st1.pop
  obtain ⟨u, hst, a, items, e, ⟨m, ha⟩, hdl⟩ := st1.look hx
  subst e
  refine callWith_any hc ok st1 ?_ (he _) (hp _)
  refine wpAny_items_cons ?_ (he _)
  refine wpAny_Name ?_ hd
  suffices hh : ∀ o, o = Value.ref a → wpAny (model g.prog g.w) F.A (spliced (backTo p (starEach [_] F.env))) (fun vs s₂ => Le g.base.get? s₂.heap.get? ∧ wpAny (model g.prog g.w) F.A (call fv (o :: vs)) (fun v s' => ∃ H', Le H H' ∧ St F ρ₁ ((v, .fz (.int r)) :: τ) H' s') NoE s₂) NoE s₁ by
    rcases hst with ⟨k, m, hm, e⟩ | ⟨k, c, hl, i⟩
    · exact wpAny_loadName_local ok.kind k hm e (hh _ rfl)
    · exact wpAny_loadName_cell ok.kind k hl i (hh _ rfl)
  rintro o rfl
  refine wpAny_mono (h2 p F _ H₁ s₁ ok st1) (fun vs s₂ h => ?_) fun _ _ e => e
  obtain ⟨H₂, u2, hl, st2⟩ := h
  refine ⟨ok.baseLe st2, ?_⟩
  have hY2 := hst.mono u2.keep
  have dv := st2.denL hl
  obtain ⟨v1, r1, rfl, d1, d2⟩ := dv.inv
  cases DenL.nil_iff.mp d2
  have st3 := st2.popN
  obtain ⟨_, hH2, _, ⟨items2, m2, ha2, hd2⟩, _⟩ := st3.ownOff hx hY2
  refine wpAny_mono (h3 F.A H₂ s₂ a items2 m2 v1 ok.gok ok.room (ok.baseH st3) st3.le hH2 ha2 hd2 d1) (fun v s₃ h => ?_) fun _ _ e => e
  obtain ⟨kp, e1, e2, e3, items', m', ha', hd', dr⟩ := h
  refine ⟨H₂, u1.sub.trans u2.sub, (st3.callM ok.toOk hx hY2 hp' (Le.refl _) (fun b o e => ?_) kp (fun b hb => .inl hb) ha' hd' e1 e2 e3).push dr⟩
  exact kp b o (fun q => by subst q; rw [hH2] at e; cases e) (st3.le b o e)

theorem EvM_binopR {l r : Expr} {op : Operator} {p : Pos} {a b c : Int} (h1 : Ev g n kn ρ l (.fz (.int a))) (h2 : EvM g n kn ρ r (.fz (.int b)) ρ₁) (h3 : IntOp g op a b c) : EvM g n kn ρ (.BinOp l op r p) (.fz (.int c)) ρ₁ := by
  intro F τ H s ok st
  refine wpAny_BinOp (wpAny_mono (h1 F τ H s ok st) (fun u s₁ h => ?_) fun _ _ e => e)
  obtain ⟨H₁, u1, st1⟩ := h
  refine wpAny_mono (h2 F _ H₁ s₁ ok st1) (fun w s₂ h => ?_) fun _ _ e => e
  obtain ⟨H₂, l2, st2⟩ := h
  obtain ⟨t2, rfl⟩ := den_int st2.topFz
  obtain ⟨t1, rfl⟩ := den_int st2.pop.topFz
  exact h3 F.A s₂ t1 t2 _ _ fun k => ⟨H₂, u1.sub.trans l2, ((st2.pop.pop).toks _).push mk_int⟩
theorem EvM_binopL {l r : Expr} {op : Operator} {p : Pos} {a b c : Int} (h1 : EvM g n kn ρ l (.fz (.int a)) ρ₁) (h2 : Ev g n kn ρ₁ r (.fz (.int b))) (h3 : IntOp g op a b c) : EvM g n kn ρ (.BinOp l op r p) (.fz (.int c)) ρ₁ := by
  intro F τ H s ok st
  refine wpAny_BinOp (wpAny_mono (h1 F τ H s ok st) (fun u s₁ h => ?_) fun _ _ e => e)
  obtain ⟨H₁, l1, st1⟩ := h
  refine wpAny_mono (h2 F _ H₁ s₁ ok st1) (fun w s₂ h => ?_) fun _ _ e => e
  obtain ⟨H₂, u2, st2⟩ := h
  obtain ⟨t2, rfl⟩ := den_int st2.topFz
  obtain ⟨t1, rfl⟩ := den_int st2.pop.topFz
  exact h3 F.A s₂ t1 t2 _ _ fun k => ⟨H₂, l1.trans u2.sub, ((st2.pop.pop).toks _).push mk_int⟩

end Mine
namespace Mine
variable {g : Gl} {n : Nat} {kn : Kn} {ρ ρ' ρ₁ ρ₂ ρc ρe : List (Str × B)}

-- a frame that is handed a list of its caller's: its start is the state without that list
def gone : Obj := { cls := .none, data := .freed }
def erase (a : Addr) (s : Shared) : Shared := { s with heap := s.heap.update a fun _ => gone }
theorem erase_self (a : Addr) (s : Shared) : (erase a s).heap.get? a = none := by
  cases q : (erase a s).heap.get? a with
  | none => rfl
  | some o =>
    obtain ⟨h1, h2⟩ := Heap.get?_some_iff.mp q
    have h1' : (s.heap.update a fun _ => gone).objs[a]? = some o := h1
    cases hs : s.heap with
    | mk objs life =>
      rw [hs] at h1'
      simp only [Heap.update, Array.getElem?_modify, if_true, Option.map_eq_some_iff] at h1'
      obtain ⟨_, _, rfl⟩ := h1'
      cases h2
theorem erase_ne {a b : Addr} (s : Shared) (h : b ≠ a) : (erase a s).heap.get? b = s.heap.get? b := Heap.get?_update_other _ _ (Ne.symm h)
theorem erase_le (a : Addr) (s : Shared) : Le (erase a s).heap.get? s.heap.get? := fun b o e => by
  by_cases q : b = a
  · subst q; rw [erase_self] at e; cases e
  · rw [erase_ne s q] at e; exact e
theorem le_erase {a : Addr} {s : Shared} {H : PH} (l : Le H s.heap.get?) (h : H a = none) : Le H (erase a s).heap.get? := fun b o e => by
  rw [erase_ne s (fun q => by subst q; rw [h] at e; cases e)]; exact l b o e
theorem erase_none {a b : Addr} {s : Shared} (h : s.heap.get? b = none) : (erase a s).heap.get? b = none := by
  by_cases q : b = a
  · subst q; exact erase_self ..
  · rw [erase_ne s q]; exact h

theorem EvM_comp {x : Str} {xs xs' : List V} {elt target iter : Expr} {scope : Scope} {pos : Pos} {kd : Bool} {vs ys : List V}
    (h1 : EvIt g n kn ρ kd iter vs) (ht : Tgt kd target) (hx : (x, B.own xs) ∈ ρ) (hf : (x, NameKind.free) ∈ scope.names) (hr : (remap kn scope.names).lookup x = some .cell) (co : CompOk kn scope)
    (hc : CompR g n (remap kn scope.names) target [] elt vs [(x, .own xs)] ys ρe) (hxe : (x, B.own xs') ∈ ρe) (hz : vs.length ≤ 1000000) (hp : Put x (.own xs') ρ ρ₁)
    (hset : ∀ env x, foldedSetIterable iter env x = pure x := by intros; rfl) : EvM g n kn ρ (.ListComp elt [⟨target, iter, [], 0⟩] scope pos) (.own ys) ρ₁ := by
  intro F τ H s ok st
  rw [eval_ListComp]
  unfold comprehension
  refine wpAny_bind (wpAny_mono (h1 F τ H s ok st) (fun z s₁ h => ?_) fun _ _ e => e)
  refine wpAny_bind (wpAny_standAt ?_)
  refine wpAny_bind (wpAny_of_eq (hset F.env z) ?_)
  refine wpAny_bind (wpAny_holding (wpAny_mono h (fun it s₂ h => ?_) fun _ _ e => e))
  obtain ⟨ι, H₂, u2, fr, hi, st2⟩ := h
  dsimp only
  refine wpAny_standIf ?_
  refine wpAny_bind (wpAny_newList (items := []) ?_)
  refine wpAny_bind (wpAny_mono (closure_wp (F := F) (scope := scope) (fun y hy => ?_)) (fun clo s₃ h => ?_) fun _ _ e => e)
  · obtain ⟨c, hc', _⟩ := ok.owns co.top y (co.free y hy)
    exact ⟨c, hc'⟩
  obtain ⟨rfl, c1, c2⟩ := h
  refine wpAny_bind (wpAny_newFunctionEnv co.nc (fun y hy => nomatch hy) (fun h₄ hns hsb => ?_) co.kind)
  have hsz : (s₂.heap.push { cls := .type "list", data := .seq ([] : List Value).toArray }).objs.size = s₂.heap.objs.size + 1 := Heap.size_push ..
  rw [hsz] at hns hsb
  have hle : Le (s₂.heap.push { cls := .type "list", data := .seq #[] }).get? h₄.get? := fun b o e => by
    have hb : b < s₂.heap.objs.size + 1 := by
      have := Heap.lt_size e
      rw [Heap.size_push] at this; exact this
    rw [hsb.2 b (Nat.ne_of_lt hb)]
    exact Heap.get?_push_of_some _ e
  have hns' : h₄.Ns (s₂.heap.objs.size + 1) (fun _ => none) := hns
  -- the list that is turned
  obtain ⟨uY, hstY, Y, itemsY, eY, ⟨mY, haY⟩, hdY⟩ := st.look hx
  subst eY
  obtain ⟨yS, yH, y0, _, yT⟩ := st.ownOff hx hstY
  have hxc := co.free x hf
  obtain ⟨cY, hcY, icY⟩ : ∃ c, F.env.cells.lookup x = some c ∧ s.heap.IsCell c (some (.ref Y)) := by
    rcases hstY with ⟨k, _⟩ | ⟨_, c, hl, i⟩
    · rw [ok.kindOf, hxc] at k; cases k
    · exact ⟨c, hl, i⟩
  have cl : ∀ y c, clo.lookup y = some c → F.env.cells.lookup y = some c := fun y c e => c1 y c (mem_of_lookup e)
  have cel : ∀ y c, clo.lookup y = some c → ∃ v, s.heap.IsCell c v := fun y c e => st.cells y c (cl y c e)
  have cne : ∀ c v, s.heap.IsCell c v → c ≠ Y := fun c v i q => by
    subst q
    obtain ⟨o, ho, hd⟩ := i
    rw [haY] at ho; cases ho; cases hd
  have cer : ∀ c v, s.heap.IsCell c v → (erase Y s).heap.IsCell c v := fun c v i => by
    obtain ⟨o, ho, hd⟩ := id i
    exact ⟨o, by rw [erase_ne s (cne c v i)]; exact ho, hd⟩
  obtain ⟨cx, hcx⟩ := c2 x hf
  obtain ⟨cx', hlx, hmx⟩ := mem_lookup hcx
  have ecx : cx' = cY := by
    have := c1 x cx' hmx
    rw [hcY] at this
    exact (Option.some.inj this).symm
  subst ecx
  have k4 : Le s₂.heap.get? h₄.get? := (push_le _ _).trans hle
  have k5 : Le s.heap.get? h₄.get? := u2.keep.trans k4
  have frs : ∀ j, s₂.heap.objs.size ≤ j → s.heap.get? j = none := fun j hj => by
    cases q : s.heap.get? j with
    | none => rfl
    | some o => exact absurd (Heap.lt_size (u2.keep _ _ q)) (Nat.not_lt.mpr hj)
  have frH : ∀ j, s₂.heap.objs.size ≤ j → H₂ j = none := fun j hj => by
    cases q : H₂ j with
    | none => rfl
    | some o => exact absurd (Heap.lt_size (st2.le _ _ q)) (Nat.not_lt.mpr hj)
  have hYlt : Y < s₂.heap.objs.size := Heap.lt_size (u2.keep _ _ haY)
  have yH2 : H₂ Y = none := by
    cases q : H₂ Y with
    | none => rfl
    | some o =>
      rcases u2.new Y (by rw [q]; exact fun x => nomatch x) with h | h
      · exact absurd yH h
      · rw [haY] at h; cases h
  have okc : Okk g n (remap kn scope.names) { env := cEnv kn scope F.env (s₂.heap.objs.size + 1) clo, A := F.A, s₀ := erase Y s, H₀ := H, store := [s₂.heap.objs.size + 1] } := {
      kind := co.kind
      locIn := .head _
      cellIn := fun y c e => by
        obtain ⟨v, i⟩ := cel y c e
        obtain ⟨o, ho, _⟩ := cer c v i
        exact .inr (by show ((erase Y s).heap.get? c).isSome = true; rw [ho]; rfl)
      cellInj := fun y z c e1 e2 => ok.cellInj y z c (cl _ _ e1) (cl _ _ e2)
      cellNe := fun y c e q => by
        obtain ⟨v, o, ho, _⟩ := cel y c e
        have q' : c = s₂.heap.objs.size + 1 := q
        rw [q', frs _ (Nat.le_succ _)] at ho; cases ho
      gok := ok.gok
      room := ok.room
      names := rfl
      globals := ok.globals
      builtins := ok.builtins
      base := ok.baseH st
      h₀ := le_erase st.le yH
      owns := fun h => absurd h co.dot }
  have stc : ∀ tk, St { env := cEnv kn scope F.env (s₂.heap.objs.size + 1) clo, A := F.A, s₀ := erase Y s, H₀ := H, store := [s₂.heap.objs.size + 1] } [(x, .own xs)] ((.ref s₂.heap.objs.size, .own []) :: ι) H₂ { s₂ with heap := h₄, toks := tk } := fun tk => {
      le := st2.le.trans k4
      keep := (erase_le Y s).trans k5
      sub := u2.sub
      new := fun b hb => (u2.new b hb).imp id erase_none
      gens := st2.gens.trans st.gens.symm
      drawn := st2.drawn.trans st.drawn.symm
      os := st2.os.trans st.os.symm
      ns := ⟨_, hns⟩
      cells := fun y c e => let ⟨v, i⟩ := cel y c e; ⟨v, i.keeps k5⟩
      vars := by
        refine ⟨[(x, .ref Y, .own xs)], rfl, List.nodup_cons.mpr ⟨List.not_mem_nil, List.nodup_nil⟩, fun e he => ?_, ⟨fun p hp => ?_, ?_, fun a ha => ?_⟩⟩
        · cases List.mem_singleton.mp he
          exact .inr ⟨hr, cx', hlx, icY.keeps k5⟩
        · rcases List.mem_cons.mp hp with rfl | q
          · exact ⟨Y, itemsY, rfl, ⟨mY, k5 _ _ haY⟩, hdY.mono u2.sub⟩
          · rcases List.mem_cons.mp q with rfl | q
            · exact ⟨_, [], rfl, ⟨0, hle _ _ (Heap.get?_push_size _ rfl)⟩, DenL.nil⟩
            · exact (st2.memDen (List.mem_append_left _ q)).mono (Le.refl _) k4
        · have nd : (privs ι).Nodup := by
            obtain ⟨σ2, _, vs2⟩ := st2.vars
            have := vs2.good.nodup
            rw [privs_append, privs_append] at this
            exact (List.nodup_append.mp (List.nodup_append.mp (List.nodup_append.mp this).2.1).2.1).1
          have lt : ∀ a ∈ privs ι, a < s₂.heap.objs.size := fun a ha => by
            obtain ⟨p, hp, hb, e⟩ := privs_mem ha
            have := denB_some hb e (st2.memDen (List.mem_append_left _ hp))
            obtain ⟨o, ho⟩ := Option.isSome_iff_exists.mp this
            exact Heap.lt_size ho
          show ((s₂.heap.objs.size + 1) :: Y :: s₂.heap.objs.size :: privs ι).Nodup
          refine List.nodup_cons.mpr ⟨fun q => ?_, List.nodup_cons.mpr ⟨fun q => ?_, List.nodup_cons.mpr ⟨fun q => ?_, nd⟩⟩⟩
          · rcases List.mem_cons.mp q with e | q
            · rw [← e] at hYlt; exact absurd hYlt (Nat.not_lt.mpr (Nat.le_succ _))
            · rcases List.mem_cons.mp q with e | q
              · exact absurd e (Nat.succ_ne_self _)
              · exact absurd (lt _ q) (Nat.not_lt.mpr (Nat.le_succ _))
          · rcases List.mem_cons.mp q with e | q
            · rw [e] at hYlt; exact absurd hYlt (Nat.lt_irrefl _)
            · have := fr Y q
              rw [haY] at this; cases this
          · exact absurd (lt _ q) (Nat.lt_irrefl _)
        · have ha' : a = s₂.heap.objs.size + 1 ∨ a = Y ∨ a = s₂.heap.objs.size ∨ a ∈ privs ι := by
            have ha2 : a ∈ (s₂.heap.objs.size + 1) :: Y :: s₂.heap.objs.size :: privs ι := ha
            simpa only [List.mem_cons] using ha2
          rcases ha' with rfl | rfl | rfl | q
          · refine ⟨frH _ (Nat.le_succ _), erase_none (frs _ (Nat.le_succ _)), ?_⟩
            obtain ⟨o, _, _, ho, _⟩ := hns
            show (h₄.get? _).isSome = true
            rw [ho]; rfl
          · exact ⟨yH2, erase_self _ _, by show (h₄.get? a).isSome = true; rw [k5 _ _ haY]; rfl⟩
          · exact ⟨frH _ (Nat.le_refl _), erase_none (frs _ (Nat.le_refl _)), by show (h₄.get? _).isSome = true; rw [hle _ _ (Heap.get?_push_size _ rfl)]; rfl⟩
          · obtain ⟨p, hp, hb, e⟩ := privs_mem q
            have hs := denB_some hb e (st2.memDen (List.mem_append_left _ hp))
            obtain ⟨o, ho⟩ := Option.isSome_iff_exists.mp hs
            have h1 : H₂ a = none := by
              obtain ⟨σ2, _, vs2⟩ := st2.vars
              exact (vs2.good.off a (by rw [privs_append, privs_append]; exact List.mem_append_right _ (List.mem_append_right _ (List.mem_append_left _ q)))).1
            exact ⟨h1, erase_none (fr a q), by show (h₄.get? a).isSome = true; rw [k4 _ _ ho]; rfl⟩ }
  simp only [newEnv, hsz, remap_eq ok]
  have stc := stc (s₂.toks + ([] : List (Str × Value)).length)
  have cl := comp_loop (ysAll := ys) (H₀ := H₂) (elt := elt) (target := target) (iter := iter) (cs := []) (scope := scope) (pos := pos) (it := it) (acc := .ref s₂.heap.objs.size) (kd := kd) okc ht (R := fun r s' => match r with
      | .ok _ => ∃ H₅, St { env := cEnv kn scope F.env (s₂.heap.objs.size + 1) clo, A := F.A, s₀ := erase Y s, H₀ := H, store := [s₂.heap.objs.size + 1] } ρe [(.ref s₂.heap.objs.size, .own ys)] H₅ s'
      | .error _ => False) (fun s' H' _ st' => ⟨H', st'⟩) hc rfl (Nat.le_trans hc.len hz) (Le.refl H₂) hi stc
  have sf : ∀ sx, St { env := cEnv kn scope F.env (s₂.heap.objs.size + 1) clo, A := F.A, s₀ := erase Y s, H₀ := H, store := [s₂.heap.objs.size + 1] } [(x, .own xs)] ((.ref s₂.heap.objs.size, .own []) :: ι) H₂ sx → wpAny (model g.prog g.w) F.A (pyIter it) (fun it' s' => it' = it ∧ s' = sx) NoE sx :=
    fun sx stx => ItOk.self hi (F := { env := cEnv kn scope F.env (s₂.heap.objs.size + 1) clo, A := F.A, s₀ := erase Y s, H₀ := H, store := [s₂.heap.objs.size + 1] }) (τ := []) (by rw [List.append_nil]; exact stx.pop) ⟨rfl, rfl⟩
  refine wpAny_holding (wpAny_bind (wpAny_attempt (wpAny_holding (wpAny_run (codeAny_mono (codeAny_compStart_list cl (wpAny_mono (sf _ stc) (fun it' s' e => by obtain ⟨rfl, rfl⟩ := e; exact cl) fun _ _ e => e.elim)) fun r s' h => ?_)))))
  cases r with
  | error x => exact h.elim
  | ok f =>
    obtain ⟨H₅, st5⟩ := h
    obtain ⟨m, hm5⟩ := st5.ns
    -- the turned list, in the def's own frame
    obtain ⟨u5, hst5, Y5, items5, e5, ⟨m5, ha5⟩, hd5⟩ := st5.look hxe
    subst e5
    have eY5 : Y5 = Y := by
      rcases hst5 with ⟨k, _⟩ | ⟨_, c, hl, i⟩
      · have k' : (remap kn scope.names).lookup x = some .local := k
        rw [hr] at k'; cases k'
      · have hl' : clo.lookup x = some c := hl
        rw [hlx] at hl'; cases hl'
        have i2 := (cer _ _ icY).keeps st5.keep
        obtain ⟨o1, h1, d1⟩ := i
        obtain ⟨o2, h2, d2⟩ := i2
        have h2' : s'.heap.get? cx' = some o2 := h2
        rw [h1] at h2'; cases h2'
        rw [d1] at d2
        cases d2; rfl
    subst eY5
    have hLe : Le (erase Y5 s).heap.get? s'.heap.get? := st5.keep
    obtain ⟨_, a5H, a50, _, a5T⟩ := st5.ownOff hxe hst5
    obtain ⟨σ5, e5, vs5⟩ := st5.vars
    have off := vs5.good.off
    have pe5 : privs (σ5.map (·.2) ++ [(Value.ref s₂.heap.objs.size, B.own ys)]) = privs (σ5.map (·.2)) ++ [s₂.heap.objs.size] := by rw [privs_append]; rfl
    have offa := off s₂.heap.objs.size (List.mem_append_right _ (by rw [pe5]; exact List.mem_append_right _ (.head _)))
    have offL := off (s₂.heap.objs.size + 1) (List.mem_append_left _ (.head _))
    obtain ⟨oL, hoL⟩ := Option.isSome_iff_exists.mp offL.2.2
    have pe : privs [(Value.ref s₂.heap.objs.size, B.own ys), (Value.ref (s₂.heap.objs.size + 1), B.priv oL)] = [s₂.heap.objs.size, s₂.heap.objs.size + 1] := rfl
    have stg : St F ρ₁ ([(Value.ref s₂.heap.objs.size, B.own ys), (Value.ref (s₂.heap.objs.size + 1), B.priv oL)] ++ τ) H₅ s' := by
      refine st.callMG ok.toOk ?_ ?_ ?_ hx hstY hp st5.sub st5.le (fun b o hb e => hLe b o (by rw [erase_ne s hb]; exact e)) (fun b hb => ?_) ha5 hd5 (st5.gens) (st5.drawn) (st5.os)
      · rw [pe]; refine List.nodup_cons.mpr ⟨fun q => ?_, List.nodup_cons.mpr ⟨(fun q => nomatch q), List.nodup_nil⟩⟩
        rcases List.mem_cons.mp q with e | q
        · exact absurd e (Nat.ne_of_lt (Nat.lt_succ_self _))
        · cases q
      · rw [pe]
        intro a ha
        rcases List.mem_cons.mp ha with rfl | ha
        · exact ⟨offa.1, frs _ (Nat.le_refl _)⟩
        · rcases List.mem_cons.mp ha with rfl | ha
          · exact ⟨offL.1, frs _ (Nat.le_succ _)⟩
          · cases ha
      · intro p hp
        rcases List.mem_cons.mp hp with rfl | hp
        · exact st5.topDen
        · rcases List.mem_cons.mp hp with rfl | hp
          · exact ⟨_, rfl, hoL⟩
          · cases hp
      · by_cases q : b = Y5
        · subst q; exact absurd a5H hb
        · exact (st5.new b hb).imp id fun h => by
            have h' : (erase Y5 s).heap.get? b = none := h
            rw [erase_ne s q] at h'; exact h'
    have locs : ∀ x ∈ List.filter (fun x : Str × NameKind => (x.snd == NameKind.local || x.snd == NameKind.cell) && x.fst != Str.ofString ".0") scope.names, x.2 = .local → (cEnv kn scope F.env (s₂.heap.objs.size + 1) clo).kindOf x.1 = some .local := fun x hx e => co.loc x (List.mem_filter.mp hx).1 e
    dsimp only
    refine wpAny_bind (wpAny_holding (wpAny_comp_letGo (cenv := cEnv kn scope F.env (s₂.heap.objs.size + 1) clo) co.kind _ _ m (fun x hx e => locs x (List.mem_reverse.mp hx) e) hm5 fun h' m' hn hsb => wpAny_pure ?_))
    exact ⟨H₅, st5.sub, stg.dropPriv ok.toOk hsb⟩

end Mine
namespace Mine
variable {g : Gl} {n : Nat} {kn : Kn} {ρ ρ' ρ₁ ρ₂ ρ₃ ρ₄ : List (Str × B)}

/-- two names in their order from a display whose items turn the frame's own -/
theorem Ex_tup2M {x y : Str} {p1 p2 : Pos} {ts : List Expr} {e1 e2 : Expr} {p tp vp : Pos} {c c' : Nat} {b1 b2 : B} (h1 : EvM g n kn ρ e1 b1 ρ₁) (h2 : EvM g n kn ρ₁ e2 b2 ρ₂) (hs : Stos kn [(x, b1), (y, b2)] ρ₂ ρ₃)
    (he1 : ∀ env, starEach [e1, e2] env = (false, eval e1 env) :: starEach [e2] env := by intro _; rfl) (he2 : ∀ env, starEach [e2] env = (false, eval e2 env) :: starEach [] env := by intro _; rfl)
    (hts : ∀ env, assignEach [.Name x p1, .Name y p2] env = [(false, assign (.Name x p1) env), (false, assign (.Name y p2) env)] := by intro _; rfl)
    (hw : ∀ env : Env, env.scope.kind = .function → env.scope.names = kn → swappedStores [.Tuple [.Name x p1, .Name y p2] c tp] (.Tuple [e1, e2] c' vp) env = pure none := by (intro env h1 h2; obtain ⟨⟨k, nm, _, _, _⟩, _, _, _, _, _, _, _, _⟩ := env; cases h1; cases h2; rfl)) :
    Ex g n kn ρ (.Assign [.Tuple [.Name x p1, .Name y p2] c tp] (.Tuple [e1, e2] c' vp) p) .next ρ₃ := by
  intro F τ H s ok st
  have disp : wpAny (model g.prog g.w) F.A (eval (.Tuple [e1, e2] c' vp) F.env) (fun v s' => ∃ H' a vs, Le H H' ∧ v = .ref a ∧ s'.heap.get? a = some (tupO vs 0) ∧ vs.length = 2 ∧ St F ρ₂ ((vs.zip [b1, b2]).reverse ++ τ) H' s') NoE s := by
    refine wpAny_Tuple (wpAny_items_cons (wpAny_mono (h1 F τ H s ok st) (fun v s₁ h => ?_) fun _ _ e => e) (he1 _))
    obtain ⟨H₁, l1, st1⟩ := h
    refine wpAny_items_cons (wpAny_mono (h2 F _ H₁ s₁ ok st1) (fun u s₂ h => ?_) fun _ _ e => e) (he2 _)
    obtain ⟨H₂, l2, st2⟩ := h
    refine wpAny_items_nil ?_
    exact ⟨by rw [sizeLine_eq]; simp, H₂, _, [v, u], l1.trans l2, rfl, Heap.get?_push_size _ rfl, rfl, st2.ext (push_le _ _)⟩
  refine Assign_Tuple (wpAny_mono disp (fun v s₁ h => ?_) fun _ _ e => e) rfl (hw _ ok.kind ok.names)
  obtain ⟨H₁, a, vs, l1, rfl, ha, hl, st1⟩ := h
  show wpAny _ _ (do standAt tp; unpack (.ref a) (assignEach [.Name x p1, .Name y p2] F.env)) _ _ _
  refine wpAny_bind (wpAny_standAt ?_)
  rw [hts]
  unfold unpack
  have hnone : (List.findIdx? (fun x => x.1) [(false, assign (.Name x p1) F.env), (false, assign (.Name y p2) F.env)]) = none := rfl
  rw [hnone]
  refine wpAny_bind (wpAny_holding (wpAny_mono (unpackT ok.room.1 ha (by rw [hl]; rfl)) (fun r s₂ h => ?_) fun _ _ e => e))
  obtain ⟨rfl, k, g1, g2, g3⟩ := h
  have st2 := (st1.perm (τ' := r.zip [b1, b2] ++ τ) (List.Perm.append_right _ (List.reverse_perm _))).ext k g1 g2 g3
  exact wpAny_mono (hs.run (ps := [p1, p2]) ok hl (show [p1, p2].length = 2 from rfl) st2) (fun _ s₃ st4 => ⟨H₁, l1, st4⟩) fun _ _ e => e

end Mine
namespace Mine
variable {g : Gl} {n : Nat} {kn : Kn} {ρ ρ' ρ₁ ρ₂ ρ₃ ρ₄ : List (Str × B)}

-- names let go of
theorem sub_binds : ∀ {σ : List (Str × Value × B)} {r : List (Str × B)}, r.Sublist (bindsOf σ) → ∃ σ', σ'.Sublist σ ∧ bindsOf σ' = r
  | [], r, h => ⟨[], List.Sublist.refl _, (List.sublist_nil.mp h).symm⟩
  | e :: σ, r, h => by
    cases h with
    | cons _ h =>
      obtain ⟨σ', h1, h2⟩ := sub_binds (σ := σ) h
      exact ⟨σ', h1.cons _, h2⟩
    | cons_cons _ h =>
      obtain ⟨σ', h1, h2⟩ := sub_binds (σ := σ) h
      exact ⟨e :: σ', h1.cons_cons _, by rw [← h2]; rfl⟩
theorem St.drop {F : Fx} {τ H s} (st : St F ρ τ H s) (h : ρ₁.Sublist ρ) : St F ρ₁ τ H s := by
  refine st.withVars ?_
  obtain ⟨σ, e, vs⟩ := st.vars
  subst e
  obtain ⟨σ', h1, h2⟩ := sub_binds h
  exact ⟨σ', h2, vs.names.sublist (h1.map _), fun q hq => vs.stored q (h1.subset hq), vs.good.less ((h1.map _).append (List.Sublist.refl _))⟩
theorem Exs_drop {sts : List Stmt} {f : Fl} (h : Exs g n kn ρ sts f ρ₁) (l : ρ₂.Sublist ρ₁) : Exs g n kn ρ sts f ρ₂ := by
  intro F τ H s ok st
  refine wpAny_mono (h F τ H s ok st) (fun fl s₁ h => ?_) fun _ _ e => e
  obtain ⟨H₁, l1, p⟩ := h
  refine ⟨H₁, l1, ?_⟩
  cases f with
  | next =>
    cases fl with
    | next => exact St.drop p l
    | ret v => exact p.elim
    | brk => exact p.elim
    | cont => exact p.elim
  | ret b =>
    cases fl with
    | ret v => exact St.drop p l
    | next => exact p.elim
    | brk => exact p.elim
    | cont => exact p.elim

-- loops by an invariant
theorem ForR_inv {t : Expr} {body : List Stmt} {vs : List V} (P : Nat → List (Str × B) → Prop)
    (step : ∀ i v r, vs[i]? = some v → P i r → ∃ r₁ r₂ r₃, Bnd kn t v r r₁ ∧ Exs g n kn r₁ body .next r₂ ∧ r₃.Sublist r₂ ∧ P (i + 1) r₃) (h0 : P 0 ρ) :
    ∃ ρ', ForR g n kn t body vs ρ .next ρ' ∧ P vs.length ρ' := by
  have key : ∀ (ws : List V) (k : Nat) (r : List (Str × B)), vs.drop k = ws → k ≤ vs.length → P k r → ∃ ρ', ForR g n kn t body ws r .next ρ' ∧ P vs.length ρ' := by
    intro ws
    induction ws with
    | nil =>
      intro k r e hk p
      have : vs.length ≤ k := List.drop_eq_nil_iff.mp e
      have hk' : k = vs.length := by omega
      subst hk'
      exact ⟨r, .done, p⟩
    | cons v ws ih =>
      intro k r e hk p
      have hlt : k < vs.length := by
        have := congrArg List.length e
        simp only [List.length_drop, List.length_cons] at this; omega
      have e' : vs[k]? = some v := by
        have := congrArg (fun l => l[0]?) e
        simpa using this
      obtain ⟨r₁, r₂, r₃, hb, he, hs, p'⟩ := step k v r e' p
      have e2 : vs.drop (k + 1) = ws := by
        have := congrArg List.tail e
        rwa [List.tail_drop] at this
      obtain ⟨ρ', hf, pf⟩ := ih (k + 1) r₃ e2 hlt p'
      exact ⟨ρ', .turn hb (Exs_drop he hs) hf, pf⟩
  exact key vs 0 ρ rfl (Nat.zero_le _) h0
theorem ForR_find {t : Expr} {body : List Stmt} {vs : List V} (P : Nat → List (Str × B) → Prop) (R : B → Prop)
    (step : ∀ i v r, vs[i]? = some v → P i r → (∃ r₁ r₂ r₃, Bnd kn t v r r₁ ∧ Exs g n kn r₁ body .next r₂ ∧ r₃.Sublist r₂ ∧ P (i + 1) r₃) ∨ ∃ r₁ r₂ b, Bnd kn t v r r₁ ∧ Exs g n kn r₁ body (.ret b) r₂ ∧ R b) (h0 : P 0 ρ) :
    ∃ ρ', (ForR g n kn t body vs ρ .next ρ' ∧ P vs.length ρ') ∨ ∃ b, ForR g n kn t body vs ρ (.ret b) ρ' ∧ R b := by
  have key : ∀ (ws : List V) (k : Nat) (r : List (Str × B)), vs.drop k = ws → k ≤ vs.length → P k r → ∃ ρ', (ForR g n kn t body ws r .next ρ' ∧ P vs.length ρ') ∨ ∃ b, ForR g n kn t body ws r (.ret b) ρ' ∧ R b := by
    intro ws
    induction ws with
    | nil =>
      intro k r e hk p
      have : vs.length ≤ k := List.drop_eq_nil_iff.mp e
      have hk' : k = vs.length := by omega
      subst hk'
      exact ⟨r, .inl ⟨.done, p⟩⟩
    | cons v ws ih =>
      intro k r e hk p
      have hlt : k < vs.length := by
        have := congrArg List.length e
        simp only [List.length_drop, List.length_cons] at this; omega
      have e' : vs[k]? = some v := by
        have := congrArg (fun l => l[0]?) e
        simpa using this
      rcases step k v r e' p with ⟨r₁, r₂, r₃, hb, he, hs, p'⟩ | ⟨r₁, r₂, b, hb, he, q⟩
      · have e2 : vs.drop (k + 1) = ws := by
          have := congrArg List.tail e
          rwa [List.tail_drop] at this
        obtain ⟨ρ', ⟨hf, pf⟩ | ⟨b, hf, pf⟩⟩ := ih (k + 1) r₃ e2 hlt p'
        · exact ⟨ρ', .inl ⟨.turn hb (Exs_drop he hs) hf, pf⟩⟩
        · exact ⟨ρ', .inr ⟨b, .turn hb (Exs_drop he hs) hf, pf⟩⟩
      · exact ⟨r₂, .inr ⟨b, .ret hb he, q⟩⟩
  exact key vs 0 ρ rfl (Nat.zero_le _) h0
theorem WhileR_inv {test : Expr} {body : List Stmt} (P : Nat → List (Str × B) → Prop) (Q : List (Str × B) → Prop)
    (step : ∀ m r, P m r → (Tr g n kn r test false ∧ Q r) ∨ (Tr g n kn r test true ∧ ∃ r₂ r₃ m', m' < m ∧ Exs g n kn r body .next r₂ ∧ r₃.Sublist r₂ ∧ P m' r₃)) : ∀ (m : Nat) {r : List (Str × B)}, P m r →
    ∃ k ρ', WhileR g n kn test body k r ρ' ∧ Q ρ' := by
  intro m
  induction m using Nat.strongRecOn with
  | ind m ih =>
    intro r p
    rcases step m r p with ⟨h1, q⟩ | ⟨h1, r₂, r₃, m', hm, he, hs, p'⟩
    · exact ⟨0, r, .done h1, q⟩
    · obtain ⟨k, ρ', hw, q⟩ := ih m' hm p'
      exact ⟨k + 1, ρ', .turn h1 (Exs_drop he hs) hw, q⟩

-- tests whose outcome is known
theorem Ex_ifT {t : Expr} {a b : List Stmt} {p : Pos} {f : Fl} (h1 : Tr g n kn ρ t true) (h2 : Exs g n kn ρ a f ρ₁) : Ex g n kn ρ (.If t a b p) f ρ₁ := Ex_if h1 (fun _ => h2) fun h => nomatch h
theorem Ex_ifF {t : Expr} {a b : List Stmt} {p : Pos} {f : Fl} (h1 : Tr g n kn ρ t false) (h2 : Exs g n kn ρ b f ρ₁) : Ex g n kn ρ (.If t a b p) f ρ₁ := Ex_if h1 (fun h => nomatch h) fun _ => h2
theorem Ev_ifT {t x y : Expr} {p : Pos} {b : B} (h1 : Tr g n kn ρ t true) (h2 : Ev g n kn ρ x b) : Ev g n kn ρ (.IfExp t x y p) b := Ev_ife h1 (fun _ => h2) fun h => nomatch h
theorem Ev_ifF {t x y : Expr} {p : Pos} {b : B} (h1 : Tr g n kn ρ t false) (h2 : Ev g n kn ρ y b) : Ev g n kn ρ (.IfExp t x y p) b := Ev_ife h1 (fun h => nomatch h) fun _ => h2
theorem Tr.of {t : Expr} {c d : Bool} (h : Tr g n kn ρ t c) (e : c = d) : Tr g n kn ρ t d := e ▸ h
theorem Ev.of {t : Expr} {c d : V} (h : Ev g n kn ρ t (.fz c)) (e : c = d) : Ev g n kn ρ t (.fz d) := e ▸ h

-- lists of ints
abbrev lV (xs : List Int) : V := .list (xs.map V.int)
theorem getD_map {xs : List Int} {i : Nat} (h : i < xs.length) : (xs.map V.int)[i]? = some (.int (xs.getD i 0)) := by
  rw [List.getElem?_map, List.getElem?_eq_getElem h, List.getD_eq_getElem?_getD, List.getElem?_eq_getElem h]; rfl
theorem Ev_itemI {v i : Expr} {p : Pos} {xs : List Int} {k : Int} (h1 : Ev g n kn ρ v (.fz (lV xs))) (h2 : Ev g n kn ρ i (.fz (.int k))) (h0 : 0 ≤ k ∧ k < xs.length ∧ xs.length < 2 ^ 40)
    (hs : ∀ o i', subscripted i false o i' = operate [o, i'] (getItem o i') := by intros; with_unfolding_all rfl) : Ev g n kn ρ (.Subscript v i p) (.fz (.int (xs.getD k.toNat 0))) :=
  Ev_item h1 h2 h0.1 (by omega) (getD_map (by omega)) hs
theorem Ev_itemOwnI {x : Str} {q : Pos} {i : Expr} {p : Pos} {xs : List Int} {k : Int} (h1 : (x, B.own (xs.map V.int)) ∈ ρ) (h2 : Ev g n kn ρ i (.fz (.int k))) (h0 : 0 ≤ k ∧ k < xs.length ∧ xs.length < 2 ^ 40)
    (hs : ∀ o i', subscripted i false o i' = operate [o, i'] (getItem o i') := by intros; with_unfolding_all rfl) (hd : (x == ("__debug__" : Str)) = false := by decide) : Ev g n kn ρ (.Subscript (.Name x q) i p) (.fz (.int (xs.getD k.toNat 0))) :=
  Ev_itemOwn h1 h2 h0.1 (by omega) (getD_map (by omega)) hs hd
theorem Ex_appendI {x : Str} {q : Pos} {e : Expr} {p p' pa : Pos} {xs : List Int} {y : Int} (hx : (x, B.own (xs.map V.int)) ∈ ρ) (h1 : Ev g n kn ρ e (.fz (.int y))) (hz : xs.length ≤ 1000000) (hp : Put x (.own ((xs ++ [y]).map V.int)) ρ ρ₁)
    (hbase : ∀ env, attributeBase (.Name x q) "append" env (eval (.Name x q) env) = eval (.Name x q) env := by intro _; rfl) (he : ∀ env, starEach [e] env = [(false, eval e env)] := by intro _; rfl)
    (hline : (pa.endLine == p.line) = true := by rfl) (hd : (x == ("__debug__" : Str)) = false := by decide) : Ex g n kn ρ (.Expr (.Call (.Attribute (.Name x q) "append" pa) [e] [] p) p') .next ρ₁ :=
  Ex_append hx h1 (by simpa using hz) (by rw [List.map_append] at hp; exact hp) hbase he hline hd
theorem Ex_setItemI {x : Str} {q : Pos} {i e : Expr} {p p' : Pos} {xs : List Int} {k : Int} {y : Int} (hx : (x, B.own (xs.map V.int)) ∈ ρ) (h1 : Ev g n kn ρ e (.fz (.int y))) (h2 : Ev g n kn ρ i (.fz (.int k))) (h0 : 0 ≤ k ∧ k < xs.length ∧ xs.length < 2 ^ 40) (hp : Put x (.own ((xs.set k.toNat y).map V.int)) ρ ρ₁)
    (hs : ∀ env, swapsWith e (some (.Subscript (.Name x q) i p')) p.line env = pure false := by intro _; rfl) (hd : (x == ("__debug__" : Str)) = false := by decide) : Ex g n kn ρ (.Assign [.Subscript (.Name x q) i p'] e p) .next ρ₁ :=
  Ex_setItem hx h1 h2 h0.1 (by omega) (by simpa using h0.2.1) (by rw [List.map_set] at hp; exact hp) hs hd

-- a def's contract, by its name
def FnN (g : Gl) (n : Nat) (k : Nat) (xs : List V) (y : V) : Prop := ∀ a, g.mg (dAt k).name = some (.ref a) → Fn g n (.ref a) xs y
theorem FnN.less {m k : Nat} {xs : List V} {y : V} (h : FnN g m k xs y) (l : m ≤ n) : FnN g n k xs y := fun a e => (h a e).less l
theorem Ev_callN {k : Nat} {x : Str} {q p : Pos} {e : Expr} {es : List Expr} {z : V} {zs : List V} {y : V} (h2 : EvF g n kn ρ (e :: es) (z :: zs)) (h3 : FnN g n k (z :: zs) y) (hn : (dAt k).name = x := by rfl) (hk : k < 53 ∧ k ∉ [0,1,2,3,13,21,29,30,31,37,45] := by decide)
    (hg : kn.lookup x = some .globalImplicit := by rfl) (hd : (x == ("__debug__" : Str)) = false := by decide)
    (hcall : ∀ env, eval (.Call (.Name x q) (e :: es) [] p) env = (do callWith p (← eval (.Name x q) env) [] (backTo p (starEach (e :: es) env)) (backToKw p (keywordEach [] env))) := by intro _; rfl)
    (he : ∀ env, starEach (e :: es) env = (false, eval e env) :: starEach es env := by intro _; rfl) (hp : ∀ env, (backTo p (starEach es env)).any (·.1) = false := by intro _; rfl) :
    Ev g n kn ρ (.Call (.Name x q) (e :: es) [] p) (.fz y) := by
  intro F τ H s ok st
  obtain ⟨a, o, pm, code, doc, hm, ho, hdat, hcd⟩ := ok.gok.fn _ (dAt_mem hk.1 hk.2)
  exact Ev_call (Ev_fun (hn ▸ hm) hg hd) h2 (.fn ho hdat) (h3 a hm) hcall he hp F τ H s ok st
theorem FnN_of {k : Nat} {names : List Str} {xs : List V} {y : V} {f : Fl} (hk' : k < 53 ∧ k ∉ [0,1,2,3,13,21,29,30,31,37,45])
    (hl : names.length = xs.length) (hn : names.Nodup) (hk : ∀ x ∈ names, (dAt k).scope.names.lookup x = some .local)
    (hb : ∀ pm code doc vals, vals.length = xs.length → bindArgs (docDef (dAt k).name (dAt k).params (dAt k).body (dAt k).scope pm code doc) ⟨vals, []⟩ = pure (names.zip vals))
    (hco : (dAt k).scope.isCoroutine = false) (hgen : (dAt k).scope.isGenerator = false) (hkind : (dAt k).scope.kind = .function) (hcell : ∀ x ∈ (dAt k).scope.names, x.2 ≠ .cell)
    (hbody : ∃ ρ', Exs g n (dAt k).scope.names (bindV names xs) (dAt k).body f ρ') (hy : Gives y f) :
    FnN g (n + 1) k xs y := by
  obtain ⟨ρ', hbody⟩ := hbody
  exact fun a ha => Fn_of (dAt_mem hk'.1 hk'.2) ha hb hl hn hk hbody hy hco hgen hkind hcell

end Mine
namespace Mine
variable {g : Gl} {n : Nat} {kn : Kn} {ρ ρ' ρ₁ ρ₂ ρ₃ ρ₄ : List (Str × B)}

abbrev Rh := List (Str × B)
/-- statements, and what is known of the names behind them -/
def Xs (g : Gl) (n : Nat) (kn : Kn) (ρ : Rh) (sts : List Stmt) (f : Fl) (P : Rh → Prop) : Prop := ∃ ρ', Exs g n kn ρ sts f ρ' ∧ P ρ'
theorem Xs.ex {sts f P} (h : Xs g n kn ρ sts f P) : ∃ ρ', Exs g n kn ρ sts f ρ' := let ⟨r, h, _⟩ := h; ⟨r, h⟩
theorem Xs_nil {P : Rh → Prop} (h : P ρ) : Xs g n kn ρ [] .next P := ⟨ρ, Exs_nil, h⟩
theorem Xs_cons {st sts f P} (h1 : Ex g n kn ρ st .next ρ₁) (h2 : Xs g n kn ρ₁ sts f P) : Xs g n kn ρ (st :: sts) f P := let ⟨r, h, p⟩ := h2; ⟨r, Exs_cons h1 h, p⟩
theorem Xs_ret {st sts b P} (h1 : Ex g n kn ρ st (.ret b) ρ₁) (h2 : P ρ₁) : Xs g n kn ρ (st :: sts) (.ret b) P := ⟨ρ₁, Exs_ret h1, h2⟩
theorem Xs_return {e p sts b} (h1 : Ev g n kn ρ e b) : Xs g n kn ρ (.Return (some e) p :: sts) (.ret b) (fun _ => True) := Xs_ret (Ex_return h1) trivial
theorem Xs_freeze {sts f P} {x : Str} {xs : List V} (hx : (x, B.own xs) ∈ ρ) (hp : Put x (.fz (.list xs)) ρ ρ₁) (h : Xs g n kn ρ₁ sts f P) : Xs g n kn ρ sts f P := let ⟨r, h, p⟩ := h; ⟨r, Exs_freeze hx hp h, p⟩
theorem Xs_while {test body p sts f Post} (P : Nat → Rh → Prop) (Q : Rh → Prop)
    (step : ∀ m r, P m r → (Tr g n kn r test false ∧ Q r) ∨ (Tr g n kn r test true ∧ Xs g n kn r body .next fun r₂ => ∃ r₃ m', m' < m ∧ r₃.Sublist r₂ ∧ P m' r₃)) (m : Nat) (h0 : P m ρ)
    (k : ∀ r, Q r → Xs g n kn r sts f Post) : Xs g n kn ρ (.While test body [] p :: sts) f Post := by
  obtain ⟨j, r, hw, q⟩ := WhileR_inv (g := g) (n := n) (kn := kn) (test := test) (body := body) P Q (fun m r p => by
    rcases step m r p with h | ⟨h, r₂, he, r₃, m', hm, hs, hp⟩
    · exact .inl h
    · exact .inr ⟨h, r₂, r₃, m', hm, he, hs, hp⟩) m h0
  exact Xs_cons (Ex_while hw) (k r q)
theorem Xs_for {t e : Expr} {body : List Stmt} {p : Pos} {kd : Bool} {vs : List V} {sts f Post} (P : Nat → Rh → Prop) (h1 : EvIt g n kn ρ kd e vs) (ht : Tgt kd t)
    (step : ∀ i v r, vs[i]? = some v → P i r → ∃ r₁, Bnd kn t v r r₁ ∧ Xs g n kn r₁ body .next fun r₂ => ∃ r₃, r₃.Sublist r₂ ∧ P (i + 1) r₃) (h0 : P 0 ρ)
    (k : ∀ r, P vs.length r → Xs g n kn r sts f Post)
    (hs : ∀ env x, foldedSetIterable e env x = pure x := by intro _ _; rfl) : Xs g n kn ρ (.For t e body [] p :: sts) f Post := by
  obtain ⟨r, hf, q⟩ := ForR_inv (g := g) (n := n) (kn := kn) (t := t) (body := body) P (fun i v r e p => by
    obtain ⟨r₁, hb, r₂, he, r₃, hs, hp⟩ := step i v r e p
    exact ⟨r₁, r₂, r₃, hb, he, hs, hp⟩) h0
  exact Xs_cons (Ex_for h1 ht hf hs) (k r q)
/-- a loop that may return; it returns the one datum that the whole gives -/
theorem Xs_forR {t e : Expr} {body : List Stmt} {p : Pos} {kd : Bool} {vs : List V} {sts b} (P : Nat → Rh → Prop) (h1 : EvIt g n kn ρ kd e vs) (ht : Tgt kd t)
    (step : ∀ i v r, vs[i]? = some v → P i r → ∃ r₁, Bnd kn t v r r₁ ∧ ((Xs g n kn r₁ body .next fun r₂ => ∃ r₃, r₃.Sublist r₂ ∧ P (i + 1) r₃) ∨ Xs g n kn r₁ body (.ret b) fun _ => True)) (h0 : P 0 ρ)
    (k : ∀ r, P vs.length r → Xs g n kn r sts (.ret b) fun _ => True)
    (hs : ∀ env x, foldedSetIterable e env x = pure x := by intro _ _; rfl) : Xs g n kn ρ (.For t e body [] p :: sts) (.ret b) fun _ => True := by
  obtain ⟨r, ⟨hf, q⟩ | ⟨b', hf, q⟩⟩ := ForR_find (g := g) (n := n) (kn := kn) (t := t) (body := body) P (fun b' => b' = b) (fun i v r e p => by
    obtain ⟨r₁, hb, ⟨r₂, he, r₃, hs, hp⟩ | ⟨r₂, he, _⟩⟩ := step i v r e p
    · exact .inl ⟨r₁, r₂, r₃, hb, he, hs, hp⟩
    · exact .inr ⟨r₁, r₂, b, hb, he, rfl⟩) h0
  · exact Xs_cons (Ex_for h1 ht hf hs) (k r q)
  · subst q
    exact Xs_ret (Ex_for h1 ht hf hs) trivial
theorem Ex_ifX {t : Expr} {a b : List Stmt} {p : Pos} {c : Bool} {f : Fl} (h1 : Tr g n kn ρ t c) (h2 : Exs g n kn ρ (if c then a else b) f ρ₁) : Ex g n kn ρ (.If t a b p) f ρ₁ := by
  cases c with
  | true => exact Ex_ifT h1 h2
  | false => exact Ex_ifF h1 h2
theorem Xs_if {t : Expr} {a b : List Stmt} {p : Pos} {c : Bool} {sts f Post} (h1 : Tr g n kn ρ t c) (h2 : Xs g n kn ρ (if c then a else b) .next fun r => Xs g n kn r sts f Post) : Xs g n kn ρ (.If t a b p :: sts) f Post := by
  obtain ⟨r, h, q⟩ := h2
  exact Xs_cons (Ex_ifX h1 h) q
theorem Xs_ifT {t : Expr} {a b : List Stmt} {p : Pos} {sts f Post} (h1 : Tr g n kn ρ t true) (h2 : Xs g n kn ρ a .next fun r => Xs g n kn r sts f Post) : Xs g n kn ρ (.If t a b p :: sts) f Post := Xs_if h1 h2
theorem Xs_ifF {t : Expr} {a b : List Stmt} {p : Pos} {sts f Post} (h1 : Tr g n kn ρ t false) (h2 : Xs g n kn ρ b .next fun r => Xs g n kn r sts f Post) : Xs g n kn ρ (.If t a b p :: sts) f Post := Xs_if h1 h2
theorem Xs_skip {t : Expr} {a : List Stmt} {p : Pos} {sts f Post} (h1 : Tr g n kn ρ t false) (h2 : Xs g n kn ρ sts f Post) : Xs g n kn ρ (.If t a [] p :: sts) f Post := Xs_ifF h1 (Xs_nil h2)
theorem Xs_ifRet {t : Expr} {a b : List Stmt} {p : Pos} {sts c} (h1 : Tr g n kn ρ t true) (h2 : Xs g n kn ρ a (.ret c) fun _ => True) : Xs g n kn ρ (.If t a b p :: sts) (.ret c) fun _ => True := by
  obtain ⟨r, h, q⟩ := h2
  exact Xs_ret (Ex_ifT h1 h) trivial

end Mine
namespace Mine
variable {g : Gl} {n : Nat} {kn : Kn} {ρ ρ' ρ₁ ρ₂ ρ₃ ρ₄ : List (Str × B)}
theorem Xs_assign {x : Str} {p' p : Pos} {e : Expr} {b : B} {sts f P} (h : Ev g n kn ρ e b) (hs : Sto kn x b ρ ρ₁) (k : Xs g n kn ρ₁ sts f P) (hk : keepsK kn x = true := by rfl)
    (hw : ∀ env, swapsWith e (some (.Name x p')) p.line env = pure false := by intro _; rfl) : Xs g n kn ρ (.Assign [.Name x p'] e p :: sts) f P := Xs_cons (Ex_assign h hs hk hw) k
theorem Xs_aug {x : Str} {p' p : Pos} {op : Operator} {e : Expr} {a b c : Int} {sts f P} (hx : (x, B.fz (.int a)) ∈ ρ) (h : Ev g n kn ρ e (.fz (.int b))) (ho : IntIop g op a b c) (hs : Sto kn x (.fz (.int c)) ρ ρ₁) (k : Xs g n kn ρ₁ sts f P) (hk : keepsK kn x = true := by rfl) :
    Xs g n kn ρ (.AugAssign (.Name x p') op e p :: sts) f P := Xs_cons (Ex_aug hx h ho hs hk) k
theorem Xs_append {x : Str} {q : Pos} {e : Expr} {p p' pa : Pos} {xs : List Int} {y : Int} {sts f P} (hx : (x, B.own (xs.map V.int)) ∈ ρ) (h : Ev g n kn ρ e (.fz (.int y))) (hp : Put x (.own ((xs ++ [y]).map V.int)) ρ ρ₁) (hz : xs.length ≤ 1000000) (k : Xs g n kn ρ₁ sts f P)
    (hbase : ∀ env, attributeBase (.Name x q) "append" env (eval (.Name x q) env) = eval (.Name x q) env := by intro _; rfl) (he : ∀ env, starEach [e] env = [(false, eval e env)] := by intro _; rfl)
    (hline : (pa.endLine == p.line) = true := by rfl) (hd : (x == ("__debug__" : Str)) = false := by decide) : Xs g n kn ρ (.Expr (.Call (.Attribute (.Name x q) "append" pa) [e] [] p) p' :: sts) f P := Xs_cons (Ex_appendI hx h hz hp hbase he hline hd) k
theorem Xs_setItem {x : Str} {q : Pos} {i e : Expr} {p p' : Pos} {xs : List Int} {j : Int} {y : Int} {sts f P} (hx : (x, B.own (xs.map V.int)) ∈ ρ) (h : Ev g n kn ρ e (.fz (.int y))) (h2 : Ev g n kn ρ i (.fz (.int j))) (h0 : 0 ≤ j ∧ j < xs.length ∧ xs.length < 2 ^ 40) (hp : Put x (.own ((xs.set j.toNat y).map V.int)) ρ ρ₁) (k : Xs g n kn ρ₁ sts f P)
    (hs : ∀ env, swapsWith e (some (.Subscript (.Name x q) i p')) p.line env = pure false := by intro _; rfl) (hd : (x == ("__debug__" : Str)) = false := by decide) : Xs g n kn ρ (.Assign [.Subscript (.Name x q) i p'] e p :: sts) f P := Xs_cons (Ex_setItemI hx h h2 h0 hp hs hd) k
theorem Ev.ofInt {t : Expr} {c d : Int} (h : Ev g n kn ρ t (.fz (.int c))) (e : c = d) : Ev g n kn ρ t (.fz (.int d)) := e ▸ h
end Mine
namespace Mine
variable {g : Gl} {n : Nat} {kn : Kn} {ρ ρ' ρ₁ ρ₂ ρ₃ ρ₄ : List (Str × B)}
theorem clip_nat {k m : Nat} (h : k ≤ m) : clipAt m (k : Int) = k := by
  unfold clipAt
  split <;> omega
theorem vslice_to {xs : List V} {k : Nat} (h : k ≤ xs.length) : vslice xs none (some (k : Int)) = xs.take k := by
  unfold vslice
  simp only [Option.elim, clip_nat h, List.drop_zero, Nat.sub_zero]
theorem vslice_from {xs : List V} {k : Nat} (h : k ≤ xs.length) : vslice xs (some (k : Int)) none = xs.drop k := by
  unfold vslice
  simp only [Option.elim, clip_nat h]
  exact List.take_of_length_le (by simp)
theorem vslice_part {xs : List V} {i k : Nat} (h : k ≤ xs.length) (h' : i ≤ k) : vslice xs (some (i : Int)) (some (k : Int)) = (xs.drop i).take (k - i) := by
  unfold vslice
  simp only [Option.elim, clip_nat h, clip_nat (Nat.le_trans h' h)]
theorem vslice_all {xs : List V} : vslice xs none none = xs := by
  unfold vslice
  simp
theorem EvO_to {v e : Expr} {p pos : Pos} {xs : List V} {k : Nat} (h1 : Ev g n kn ρ v (.fz (.list xs))) (h2 : Ev g n kn ρ e (.fz (.int (k : Nat)))) (h : k ≤ xs.length ∧ xs.length ≤ 1000)
    (ht : ∀ o r, letTemporaryGo v o r = pure () := by intro _ _; rfl) : EvO g n kn ρ (.Subscript v (.Slice none (some e) none p) pos) (xs.take k) := by
  have := EvO_slice (pos := pos) (p := p) h1 .none (.some h2) h.2 ht
  rwa [vslice_to h.1] at this
theorem EvO_from {v e : Expr} {p pos : Pos} {xs : List V} {k : Nat} (h1 : Ev g n kn ρ v (.fz (.list xs))) (h2 : Ev g n kn ρ e (.fz (.int (k : Nat)))) (h : k ≤ xs.length ∧ xs.length ≤ 1000)
    (ht : ∀ o r, letTemporaryGo v o r = pure () := by intro _ _; rfl) : EvO g n kn ρ (.Subscript v (.Slice (some e) none none p) pos) (xs.drop k) := by
  have := EvO_slice (pos := pos) (p := p) h1 (.some h2) .none h.2 ht
  rwa [vslice_from h.1] at this
theorem EvO_part {v e e' : Expr} {p pos : Pos} {xs : List V} {i k : Nat} (h1 : Ev g n kn ρ v (.fz (.list xs))) (h2 : Ev g n kn ρ e (.fz (.int (i : Nat)))) (h3 : Ev g n kn ρ e' (.fz (.int (k : Nat)))) (h : i ≤ k ∧ k ≤ xs.length ∧ xs.length ≤ 1000)
    (ht : ∀ o r, letTemporaryGo v o r = pure () := by intro _ _; rfl) : EvO g n kn ρ (.Subscript v (.Slice (some e) (some e') none p) pos) ((xs.drop i).take (k - i)) := by
  have := EvO_slice (pos := pos) (p := p) h1 (.some h2) (.some h3) h.2.2 ht
  rwa [vslice_part h.2.1 h.1] at this
theorem EvO_all {v : Expr} {p pos : Pos} {xs : List V} (h1 : Ev g n kn ρ v (.fz (.list xs))) (h : xs.length ≤ 1000)
    (ht : ∀ o r, letTemporaryGo v o r = pure () := by intro _ _; rfl) : EvO g n kn ρ (.Subscript v (.Slice none none none p) pos) xs := by
  have := EvO_slice (pos := pos) (p := p) h1 .none .none h ht
  rwa [vslice_all] at this
theorem EvO.fzI {e : Expr} {xs : List V} {ys : List Int} (h : EvO g n kn ρ e xs) (q : xs = ys.map V.int) : Ev g n kn ρ e (.fz (lV ys)) := by subst q; exact h.fz
theorem getD_of {xs : List Int} {i : Nat} {x : Int} (e : xs[i]? = some x) : xs.getD i 0 = x := by rw [List.getD_eq_getElem?_getD, e]; rfl
theorem get_of {xs : List Int} {i : Nat} (h : i < xs.length) : xs[i]? = some (xs.getD i 0) := by rw [List.getD_eq_getElem?_getD, List.getElem?_eq_getElem h]; rfl
end Mine
namespace Mine
variable {g : Gl} {n : Nat} {kn : Kn} {ρ ρ' ρ₁ ρ₂ ρ₃ ρ₄ : List (Str × B)}

-- ranges of naturals
def rngV (k m : Nat) : List V := (List.range (m - k)).map fun j => V.int ((k + j : Nat) : Int)
theorem rngV_get {k m i : Nat} {v : V} (h : (rngV k m)[i]? = some v) : i < m - k ∧ v = .int ((k + i : Nat) : Int) := by
  unfold rngV at h
  rw [List.getElem?_map, Option.map_eq_some_iff] at h
  obtain ⟨j, h1, h2⟩ := h
  obtain ⟨h3, h4⟩ := List.getElem?_eq_some_iff.mp h1
  rw [List.getElem_range] at h4
  rw [List.length_range] at h3
  subst h4
  exact ⟨h3, h2.symm⟩
theorem rngV_len {k m : Nat} : (rngV k m).length = m - k := by simp [rngV]
theorem rangeV_up {k m : Nat} : rangeV (k : Int) (m : Int) 1 = rngV k m := by
  unfold rangeV rngV Builtin.Range.rangeSize
  have e : (if (1 : Int) > 0 then (if (k : Int) < m then ((m : Int) - k - 1) / 1 + 1 else 0) else (if (k : Int) > m then ((k : Int) - m - 1) / (-1) + 1 else 0)).toNat = m - k := by
    rw [if_pos (by decide)]
    split
    · rw [Int.ediv_one]; omega
    · show 0 = m - k; omega
  rw [e]
  apply List.map_congr_left
  intro j _
  congr 1
  omega
def dnV (m : Nat) : List V := (List.range m).map fun j => V.int ((m - 1 - j : Nat) : Int)
theorem dnV_get {m i : Nat} {v : V} (h : (dnV m)[i]? = some v) : i < m ∧ v = .int ((m - 1 - i : Nat) : Int) := by
  unfold dnV at h
  rw [List.getElem?_map, Option.map_eq_some_iff] at h
  obtain ⟨j, h1, h2⟩ := h
  obtain ⟨h3, h4⟩ := List.getElem?_eq_some_iff.mp h1
  rw [List.getElem_range] at h4
  rw [List.length_range] at h3
  subst h4
  exact ⟨h3, h2.symm⟩
theorem dnV_len {m : Nat} : (dnV m).length = m := by simp [dnV]
theorem rangeV_dn {m : Nat} : rangeV ((m : Int) - 1) (-1) (-1) = dnV m := by
  unfold rangeV dnV Builtin.Range.rangeSize
  have e : (if (-1 : Int) > 0 then (if ((m : Int) - 1) < -1 then ((-1 : Int) - (m - 1) - 1) / (-1) + 1 else 0) else (if ((m : Int) - 1) > -1 then (((m : Int) - 1) - (-1) - 1) / (-(-1)) + 1 else 0)).toNat = m := by
    rw [if_neg (by decide)]
    split
    · rw [show (-(-1) : Int) = 1 by decide, Int.ediv_one]; omega
    · show 0 = m; omega
  rw [e]
  apply List.map_congr_left
  intro j hj
  rw [List.mem_range] at hj
  congr 1
  omega
theorem EvIt_upTo {a : Expr} {q p : Pos} {m : Nat} (h : Ev g n kn ρ a (.fz (.int (m : Nat)))) (h2 : m < 2 ^ 40)
    (hcall : ∀ env, eval (.Call (.Name "range" q) [a] [] p) env = (do callWith p (← eval (.Name "range" q) env) [] (backTo p (starEach [a] env)) (backToKw p (keywordEach [] env))) := by intro _; rfl)
    (he : ∀ env, starEach [a] env = [(false, eval a env)] := by intro _; rfl) (hk : kn.lookup ("range" : Str) = some .globalImplicit := by rfl) : EvIt g n kn ρ false (.Call (.Name "range" q) [a] [] p) (rngV 0 m) := by
  have := EvIt_range1 (q := q) (p := p) h (by omega) (by omega) hcall he hk
  rwa [show (0 : Int) = ((0 : Nat) : Int) from rfl, rangeV_up] at this
theorem EvIt_up {a b : Expr} {q p : Pos} {k m : Nat} (h : Ev g n kn ρ a (.fz (.int (k : Nat)))) (h' : Ev g n kn ρ b (.fz (.int (m : Nat)))) (h1 : k < 2 ^ 40 ∧ m < 2 ^ 40)
    (hcall : ∀ env, eval (.Call (.Name "range" q) [a, b] [] p) env = (do callWith p (← eval (.Name "range" q) env) [] (backTo p (starEach [a, b] env)) (backToKw p (keywordEach [] env))) := by intro _; rfl)
    (he : ∀ env, starEach [a, b] env = [(false, eval a env), (false, eval b env)] := by intro _; rfl) (he2 : ∀ env, starEach [b] env = [(false, eval b env)] := by intro _; rfl) (hk : kn.lookup ("range" : Str) = some .globalImplicit := by rfl) :
    EvIt g n kn ρ false (.Call (.Name "range" q) [a, b] [] p) (rngV k m) := by
  have := EvIt_range2 (q := q) (p := p) h h' (by omega) (by omega) (by omega) (by omega) hcall he he2 hk
  rwa [rangeV_up] at this
theorem small_dn {m : Nat} (h : m < 2 ^ 40) : Builtin.Range.small ((m : Int) - 1) (-1) (-1) = true := by
  have e : Builtin.Range.rangeSize ((m : Int) - 1) (-1) (-1) = m := by
    unfold Builtin.Range.rangeSize
    rw [if_neg (by decide)]
    split
    · rw [show (-(-1) : Int) = 1 by decide, Int.ediv_one]; omega
    · omega
  unfold Builtin.Range.small
  rw [e]
  simp only [Builtin.Range.rangeFitsLong, Bool.and_eq_true, Bool.or_eq_true, decide_eq_true_eq, beq_iff_eq, show ¬ ((-1 : Int) > 0) by decide, if_false]
  omega
theorem EvIt_dn {a b c : Expr} {q p : Pos} {m : Nat} (h : Ev g n kn ρ a (.fz (.int ((m : Nat) - 1 : Int)))) (h' : Ev g n kn ρ b (.fz (.int (-1)))) (h'' : Ev g n kn ρ c (.fz (.int (-1)))) (h1 : m < 2 ^ 40)
    (hcall : ∀ env, eval (.Call (.Name "range" q) [a, b, c] [] p) env = (do callWith p (← eval (.Name "range" q) env) [] (backTo p (starEach [a, b, c] env)) (backToKw p (keywordEach [] env))) := by intro _; rfl)
    (he : ∀ env, starEach [a, b, c] env = [(false, eval a env), (false, eval b env), (false, eval c env)] := by intro _; rfl) (he2 : ∀ env, starEach [b, c] env = [(false, eval b env), (false, eval c env)] := by intro _; rfl) (he3 : ∀ env, starEach [c] env = [(false, eval c env)] := by intro _; rfl) (hk : kn.lookup ("range" : Str) = some .globalImplicit := by rfl) :
    EvIt g n kn ρ false (.Call (.Name "range" q) [a, b, c] [] p) (dnV m) := by
  have := EvIt_range3 (q := q) (p := p) h h' h'' (by decide) (small_dn h1) (by unfold Builtin.divisionGoesByPylong; simp; intro h; exact absurd h (by decide)) hcall he he2 he3 hk
  rwa [rangeV_dn] at this

-- the arguments of a call
theorem len1 {l : List Value} (h : l.length = 1) : ∃ a, l = [a] := by
  match l, h with
  | [a], _ => exact ⟨a, rfl⟩
theorem len2 {l : List Value} (h : l.length = 2) : ∃ a b, l = [a, b] := by
  match l, h with
  | [a, b], _ => exact ⟨a, b, rfl⟩
theorem len3 {l : List Value} (h : l.length = 3) : ∃ a b c, l = [a, b, c] := by
  match l, h with
  | [a, b, c], _ => exact ⟨a, b, c, rfl⟩
theorem len4 {l : List Value} (h : l.length = 4) : ∃ a b c d, l = [a, b, c, d] := by
  match l, h with
  | [a, b, c, d], _ => exact ⟨a, b, c, d, rfl⟩
theorem len5 {l : List Value} (h : l.length = 5) : ∃ a b c d e, l = [a, b, c, d, e] := by
  match l, h with
  | [a, b, c, d, e], _ => exact ⟨a, b, c, d, e, rfl⟩
theorem len7 {l : List Value} (h : l.length = 7) : ∃ a b c d e f g, l = [a, b, c, d, e, f, g] := by
  match l, h with
  | [a, b, c, d, e, f, g], _ => exact ⟨a, b, c, d, e, f, g, rfl⟩
end Mine
namespace Mine
variable {g : Gl} {n : Nat} {kn : Kn} {ρ ρ' ρ₁ ρ₂ ρ₃ ρ₄ : List (Str × B)}
theorem Ev_ifeI {t x y : Expr} {p : Pos} {P : Prop} {inst : Decidable P} {a b : Int} (h1 : Tr g n kn ρ t (decide P)) (h2 : P → Ev g n kn ρ x (.fz (.int a))) (h3 : ¬ P → Ev g n kn ρ y (.fz (.int b))) : Ev g n kn ρ (.IfExp t x y p) (.fz (.int (if P then a else b))) := by
  by_cases h : P
  · rw [if_pos h]; exact Ev_ifT (h1.of (decide_eq_true h)) (h2 h)
  · rw [if_neg h]; exact Ev_ifF (h1.of (decide_eq_false h)) (h3 h)
theorem side_nat {i l : Nat} (h : i < l) (h2 : l ≤ 1000) : 0 ≤ (i : Int) ∧ (i : Int) < (l : Int) ∧ l < 2 ^ 40 := by omega
theorem len_small {xs : List V} {ys : List Int} (e : xs = ys.map V.int) (h : ys.length ≤ 1000) : xs.length ≤ 2 ^ 40 := by subst e; rw [List.length_map]; omega
end Mine
namespace Mine
variable {g : Gl} {n : Nat} {kn : Kn} {ρ ρ' ρ₁ ρ₂ ρ₃ ρ₄ : List (Str × B)}
theorem EvO.of {e : Expr} {xs ys : List V} (h : EvO g n kn ρ e xs) (q : xs = ys) : EvO g n kn ρ e ys := q ▸ h
theorem drop2 {a b : Str × B} {l : Rh} : l.Sublist (a :: b :: l) := (List.sublist_cons_self _ _).trans (List.sublist_cons_self _ _)
theorem drop3 {a b c : Str × B} {l : Rh} : l.Sublist (a :: b :: c :: l) := drop2.trans (List.sublist_cons_self _ _)
theorem drop1 {a : Str × B} {l : Rh} : l.Sublist (a :: l) := List.sublist_cons_self _ _
end Mine
namespace Mine
variable {g : Gl} {n : Nat} {kn : Kn} {ρ ρ' ρ₁ ρ₂ ρ₃ ρ₄ : List (Str × B)}
theorem Xs_unpack2 {x y : Str} {p1 p2 p tp : Pos} {c : Nat} {e : Expr} {a b : V} {sts f P} (h : Ev g n kn ρ e (.fz (.tuple [a, b]))) (hs : Stos kn [(x, .fz a), (y, .fz b)] ρ ρ₁) (k : Xs g n kn ρ₁ sts f P)
    (hsw : swapsWithSole [.Tuple [.Name x p1, .Name y p2] c tp] e p.line = fun _ => pure false := by rfl)
    (hw : ∀ env, swappedStores [.Tuple [.Name x p1, .Name y p2] c tp] e env = pure none := by intro _; rfl) : Xs g n kn ρ (.Assign [.Tuple [.Name x p1, .Name y p2] c tp] e p :: sts) f P :=
  Xs_cons (Ex_unpack (l := [(x, .fz a), (y, .fz b)]) (ps := [p1, p2]) h rfl hs rfl (by intro _; rfl) hsw hw) k
theorem Xs_unpack3 {x y z : Str} {p1 p2 p3 p tp : Pos} {c : Nat} {e : Expr} {a b d : V} {sts f P} (h : Ev g n kn ρ e (.fz (.tuple [a, b, d]))) (hs : Stos kn [(x, .fz a), (y, .fz b), (z, .fz d)] ρ ρ₁) (k : Xs g n kn ρ₁ sts f P)
    (hsw : swapsWithSole [.Tuple [.Name x p1, .Name y p2, .Name z p3] c tp] e p.line = fun _ => pure false := by rfl)
    (hw : ∀ env, swappedStores [.Tuple [.Name x p1, .Name y p2, .Name z p3] c tp] e env = pure none := by intro _; rfl) : Xs g n kn ρ (.Assign [.Tuple [.Name x p1, .Name y p2, .Name z p3] c tp] e p :: sts) f P :=
  Xs_cons (Ex_unpack (l := [(x, .fz a), (y, .fz b), (z, .fz d)]) (ps := [p1, p2, p3]) h rfl hs rfl (by intro _; rfl) hsw hw) k
theorem Fn_callV {k : Nat} {x : Str} {q p : Pos} {fv : Value} {e : Expr} {es : List Expr} {z : V} {zs : List V} {y : V} (hx : (x, B.fz (.raw fv)) ∈ ρ) (h2 : EvF g n kn ρ (e :: es) (z :: zs)) (hc : Callable g fv) (h3 : Fn g n fv (z :: zs) y) (hd : (x == ("__debug__" : Str)) = false := by decide)
    (hcall : ∀ env, eval (.Call (.Name x q) (e :: es) [] p) env = (do callWith p (← eval (.Name x q) env) [] (backTo p (starEach (e :: es) env)) (backToKw p (keywordEach [] env))) := by intro _; rfl)
    (he : ∀ env, starEach (e :: es) env = (false, eval e env) :: starEach es env := by intro _; rfl) (hp : ∀ env, (backTo p (starEach es env)).any (·.1) = false := by intro _; rfl) :
    Ev g n kn ρ (.Call (.Name x q) (e :: es) [] p) (.fz y) := Ev_call (Ev_name hx hd) h2 hc h3 hcall he hp
/-- a def's own value, handed on -/
structure IsDef (g : Gl) (k : Nat) (v : Value) : Prop where
  at_ : ∃ a, v = .ref a ∧ g.mg (dAt k).name = some (.ref a)
theorem Ev_callDef {k : Nat} {x : Str} {q p : Pos} {fv : Value} {e : Expr} {es : List Expr} {z : V} {zs : List V} {y : V} (hx : (x, B.fz (.raw fv)) ∈ ρ) (h2 : EvF g n kn ρ (e :: es) (z :: zs)) (hf : IsDef g k fv) (h3 : FnN g n k (z :: zs) y) (hk : k < 53 ∧ k ∉ [0,1,2,3,13,21,29,30,31,37,45] := by decide) (hd : (x == ("__debug__" : Str)) = false := by decide)
    (hcall : ∀ env, eval (.Call (.Name x q) (e :: es) [] p) env = (do callWith p (← eval (.Name x q) env) [] (backTo p (starEach (e :: es) env)) (backToKw p (keywordEach [] env))) := by intro _; rfl)
    (he : ∀ env, starEach (e :: es) env = (false, eval e env) :: starEach es env := by intro _; rfl) (hp : ∀ env, (backTo p (starEach es env)).any (·.1) = false := by intro _; rfl) :
    Ev g n kn ρ (.Call (.Name x q) (e :: es) [] p) (.fz y) := by
  intro F τ H s ok st
  obtain ⟨a, rfl, hm⟩ := hf.at_
  obtain ⟨a', o, pm, code, doc, hm', ho, hdat, hcd⟩ := ok.gok.fn _ (dAt_mem hk.1 hk.2)
  rw [hm] at hm'
  cases hm'
  exact Ev_call (Ev_name hx hd) h2 (.fn ho hdat) (h3 a hm) hcall he hp F τ H s ok st
end Mine
namespace Mine

-- limbs and naturals, in plain Lean
def val (w : Nat) : List Int → Int
  | [] => 0
  | x :: r => x + 2 ^ w * val w r
def Dig (w : Nat) (xs : List Int) : Prop := ∀ x ∈ xs, 0 ≤ x ∧ x < 2 ^ w
theorem Dig.nil {w : Nat} : Dig w [] := fun x h => nomatch h
theorem Dig.cons {w : Nat} {x : Int} {xs : List Int} (h0 : 0 ≤ x) (h1 : x < 2 ^ w) (h : Dig w xs) : Dig w (x :: xs) := fun y hy => by
  rcases List.mem_cons.mp hy with rfl | hy
  · exact ⟨h0, h1⟩
  · exact h y hy
theorem Dig.append {w : Nat} {xs ys : List Int} (a : Dig w xs) (b : Dig w ys) : Dig w (xs ++ ys) := fun y hy => by
  rcases List.mem_append.mp hy with h | h
  · exact a y h
  · exact b y h
theorem Dig.snoc {w : Nat} {x : Int} {xs : List Int} (h : Dig w xs) (h0 : 0 ≤ x) (h1 : x < 2 ^ w) : Dig w (xs ++ [x]) := h.append (Dig.cons h0 h1 Dig.nil)
theorem Dig.tail {w : Nat} {x : Int} {xs : List Int} (h : Dig w (x :: xs)) : Dig w xs := fun y hy => h y (.tail _ hy)
theorem Dig.get {w : Nat} {xs : List Int} (h : Dig w xs) {i : Nat} {x : Int} (e : xs[i]? = some x) : 0 ≤ x ∧ x < 2 ^ w := h x (List.mem_of_getElem? e)
theorem Dig.take {w : Nat} {xs : List Int} (h : Dig w xs) (i : Nat) : Dig w (xs.take i) := fun y hy => h y (List.mem_of_mem_take hy)
theorem Dig.set {w : Nat} {xs : List Int} (h : Dig w xs) (i : Nat) {x : Int} (h0 : 0 ≤ x) (h1 : x < 2 ^ w) : Dig w (xs.set i x) := fun y hy => by
  rcases List.mem_or_eq_of_mem_set hy with q | rfl
  · exact h y q
  · exact ⟨h0, h1⟩
theorem val_append (w : Nat) : ∀ xs ys : List Int, val w (xs ++ ys) = val w xs + (2 ^ w) ^ xs.length * val w ys
  | [], ys => by simp [val]
  | x :: xs, ys => by
    simp only [List.cons_append, val, val_append w xs ys, List.length_cons]
    have e : (2 : Int) ^ w * ((2 ^ w) ^ xs.length * val w ys) = (2 ^ w) ^ (xs.length + 1) * val w ys := by
      rw [Int.pow_succ, ← Int.mul_assoc, Int.mul_comm ((2 : Int) ^ w)]
    rw [Int.mul_add, e, Int.add_assoc]
theorem val_snoc (w : Nat) (xs : List Int) (x : Int) : val w (xs ++ [x]) = val w xs + (2 ^ w) ^ xs.length * x := by
  rw [val_append]; simp [val]
theorem two_pos (w : Nat) : (0 : Int) < 2 ^ w := Int.pow_pos (by decide)
theorem val_nonneg {w : Nat} : ∀ {xs : List Int}, Dig w xs → 0 ≤ val w xs
  | [], _ => Int.le_refl _
  | x :: xs, h => by
    have h1 := h x (.head _)
    have h2 := val_nonneg h.tail
    have h3 := Int.mul_nonneg (Int.le_of_lt (two_pos w)) h2
    show 0 ≤ x + 2 ^ w * val w xs
    omega
theorem val_take_succ (w : Nat) {xs : List Int} {i : Nat} {x : Int} (e : xs[i]? = some x) : val w (xs.take (i + 1)) = val w (xs.take i) + (2 ^ w) ^ i * x := by
  have hi : i < xs.length := (List.getElem?_eq_some_iff.mp e).1
  rw [List.take_add_one, e]
  simp only [Option.toList_some]
  rw [val_snoc, List.length_take, Nat.min_eq_left (Nat.le_of_lt hi)]
theorem val_lt {w : Nat} : ∀ {xs : List Int}, Dig w xs → val w xs < (2 ^ w) ^ xs.length
  | [], _ => by simp [val]
  | x :: xs, h => by
    have h1 := h x (.head _)
    have h2 := val_lt h.tail
    have p := two_pos w
    have h3 : 2 ^ w * val w xs ≤ 2 ^ w * ((2 ^ w) ^ xs.length - 1) := Int.mul_le_mul_of_nonneg_left (by omega) (Int.le_of_lt p)
    show x + 2 ^ w * val w xs < (2 ^ w) ^ (xs.length + 1)
    have e : ((2 : Int) ^ w) ^ (xs.length + 1) = 2 ^ w * (2 ^ w) ^ xs.length := by rw [Int.pow_succ, Int.mul_comm]
    rw [Int.mul_sub, Int.mul_one] at h3
    rw [e]
    omega

/-- the limbs of a natural, the lowest first -/
def digF (w : Nat) : Nat → Nat → List Int
  | 0, _ => []
  | f + 1, n => if n = 0 then [] else ((n % 2 ^ w : Nat) : Int) :: digF w f (n / 2 ^ w)
def dig (w n : Nat) : List Int := digF w n n
theorem digF_len (w : Nat) : ∀ (f n k : Nat), n < (2 ^ w) ^ k → (digF w f n).length ≤ k
  | 0, n, k, _ => by simp [digF]
  | f + 1, n, k, h => by
    unfold digF
    split
    · simp
    · cases k with
      | zero => simp at h; omega
      | succ k =>
        have := digF_len w f (n / 2 ^ w) k (Nat.div_lt_of_lt_mul (by rw [Nat.pow_succ, Nat.mul_comm] at h; exact h))
        simp only [List.length_cons]; omega
theorem digF_Dig (w : Nat) : ∀ (f n : Nat), Dig w (digF w f n)
  | 0, n => Dig.nil
  | f + 1, n => by
    unfold digF
    split
    · exact Dig.nil
    · refine Dig.cons (Int.natCast_nonneg _) ?_ (digF_Dig w f _)
      have : n % 2 ^ w < 2 ^ w := Nat.mod_lt _ (Nat.pow_pos (by decide))
      exact_mod_cast this
theorem digF_val {w : Nat} (hw : 0 < w) : ∀ (f n : Nat), n ≤ f → val w (digF w f n) = n
  | 0, n, h => by
    have : n = 0 := by omega
    subst this; simp [digF, val]
  | f + 1, n, h => by
    unfold digF
    split
    · rename_i q; subst q; simp [val]
    · rename_i q
      have p2 : 1 < 2 ^ w := Nat.one_lt_two_pow (by omega)
      have lt : n / 2 ^ w < n := Nat.div_lt_self (by omega) p2
      show ((n % 2 ^ w : Nat) : Int) + 2 ^ w * val w (digF w f (n / 2 ^ w)) = n
      rw [digF_val hw f _ (by omega)]
      have := Nat.mod_add_div n (2 ^ w)
      exact_mod_cast this
theorem digF_last {w : Nat} (hw : 0 < w) : ∀ (f n : Nat), n ≤ f → (digF w f n).getLast? ≠ some 0
  | 0, n, h => by simp [digF]
  | f + 1, n, h => by
    unfold digF
    split
    · simp
    · rename_i q
      have p2 : 1 < 2 ^ w := Nat.one_lt_two_pow (by omega)
      have lt : n / 2 ^ w < n := Nat.div_lt_self (by omega) p2
      have ih := digF_last hw f (n / 2 ^ w) (by omega)
      cases hd : digF w f (n / 2 ^ w) with
      | cons y r =>
        rw [List.getLast?_cons_cons, ← hd]
        exact ih
      | nil =>
        have hv := digF_val hw f (n / 2 ^ w) (by omega)
        rw [hd] at hv
        have h0 : n / 2 ^ w = 0 := by
          have : ((n / 2 ^ w : Nat) : Int) = 0 := hv.symm
          exact_mod_cast this
        have hm := Nat.mod_add_div n (2 ^ w)
        rw [h0] at hm
        simp only [List.getLast?_singleton, ne_eq, Option.some.injEq]
        intro e
        have : n % 2 ^ w = 0 := by exact_mod_cast e
        omega
structure Can (w : Nat) (xs : List Int) : Prop where
  d : Dig w xs
  last : xs.getLast? ≠ some 0
theorem can_dig {w : Nat} (hw : 0 < w) (n : Nat) : Can w (dig w n) := ⟨digF_Dig w n n, digF_last hw n n (Nat.le_refl _)⟩
theorem val_dig {w : Nat} (hw : 0 < w) (n : Nat) : val w (dig w n) = n := digF_val hw n n (Nat.le_refl _)
theorem dig_zero (w : Nat) : dig w 0 = [] := rfl
theorem can_pos {w : Nat} : ∀ {xs : List Int}, Can w xs → xs ≠ [] → 0 < val w xs
  | [], _, h => absurd rfl h
  | x :: xs, c, _ => by
    have h1 := c.d x (.head _)
    cases xs with
    | nil =>
      have : x ≠ 0 := fun e => c.last (by rw [e]; rfl)
      show 0 < x + 2 ^ w * val w []
      simp only [val]; omega
    | cons y r =>
      have c' : Can w (y :: r) := ⟨c.d.tail, by have := c.last; rwa [List.getLast?_cons_cons] at this⟩
      have h2 := can_pos c' (by simp)
      have h3 := Int.mul_pos (two_pos w) h2
      show 0 < x + 2 ^ w * val w (y :: r)
      omega
theorem can_inj {w : Nat} : ∀ {xs ys : List Int}, Can w xs → Can w ys → val w xs = val w ys → xs = ys
  | [], [], _, _, _ => rfl
  | [], y :: ys, _, b, e => by
    have := can_pos b (by simp)
    rw [← e] at this
    simp [val] at this
  | x :: xs, [], a, _, e => by
    have := can_pos a (by simp)
    rw [e] at this
    simp [val] at this
  | x :: xs, y :: ys, a, b, e => by
    have h1 := a.d x (.head _)
    have h2 := b.d y (.head _)
    have p := two_pos w
    have e' : x + 2 ^ w * val w xs = y + 2 ^ w * val w ys := e
    have hx : x = y := by
      have m1 : (x + 2 ^ w * val w xs) % 2 ^ w = x := by rw [Int.add_mul_emod_self_left]; exact Int.emod_eq_of_lt h1.1 h1.2
      have m2 : (y + 2 ^ w * val w ys) % 2 ^ w = y := by rw [Int.add_mul_emod_self_left]; exact Int.emod_eq_of_lt h2.1 h2.2
      rw [← m1, ← m2, e']
    subst hx
    have hv : val w xs = val w ys := Int.eq_of_mul_eq_mul_left (Int.ne_of_gt p) (by omega)
    have ca : ∀ {z : Int} {l : List Int}, Can w (z :: l) → Can w l := fun {z l} c => ⟨c.d.tail, by
      cases l with
      | nil => simp
      | cons y r => have := c.last; rwa [List.getLast?_cons_cons] at this⟩
    rw [can_inj (ca a) (ca b) hv]
theorem can_eq {w : Nat} (hw : 0 < w) {xs : List Int} (c : Can w xs) {n : Nat} (e : val w xs = n) : xs = dig w n := can_inj c (can_dig hw n) (by rw [e, val_dig hw])

/-- the zeros at the high end struck -/
def norm (xs : List Int) : List Int := xs.take (xs.length - (xs.reverse.takeWhile (· == 0)).length)
def nend (xs : List Int) : Nat → Nat
  | 0 => 0
  | k + 1 => if xs[k]? = some 0 then nend xs k else k + 1
theorem nend_le (xs : List Int) : ∀ k, nend xs k ≤ k
  | 0 => Nat.le_refl _
  | k + 1 => by
    unfold nend
    split
    · exact Nat.le_succ_of_le (nend_le xs k)
    · exact Nat.le_refl _
theorem nend_val (w : Nat) (xs : List Int) : ∀ k, k ≤ xs.length → val w (xs.take (nend xs k)) = val w (xs.take k)
  | 0, _ => rfl
  | k + 1, h => by
    unfold nend
    split
    · rename_i e
      rw [nend_val w xs k (by omega), val_take_succ w e]; simp
    · rfl
theorem nend_last (xs : List Int) : ∀ k, k ≤ xs.length → (xs.take (nend xs k)).getLast? ≠ some 0
  | 0, _ => by simp [nend]
  | k + 1, h => by
    unfold nend
    split
    · exact nend_last xs k (by omega)
    · rename_i e
      have hk : k < xs.length := by omega
      rw [List.take_add_one, List.getElem?_eq_getElem hk]
      simp only [Option.toList_some, List.getLast?_append, List.getLast?_singleton, Option.some_or]
      rw [List.getElem?_eq_getElem hk] at e
      exact e
theorem nend_dig {w : Nat} (hw : 0 < w) {xs : List Int} (d : Dig w xs) {n : Nat} (e : val w xs = n) : xs.take (nend xs xs.length) = dig w n := by
  refine can_eq hw ⟨d.take _, nend_last xs _ (Nat.le_refl _)⟩ ?_
  rw [nend_val w xs _ (Nat.le_refl _), List.take_length, e]

end Mine
namespace Mine

theorem val_split (w : Nat) {xs : List Int} {p : Nat} (h : p ≤ xs.length) : val w xs = val w (xs.take p) + (2 ^ w) ^ p * val w (xs.drop p) := by
  have := val_append w (xs.take p) (xs.drop p)
  rw [List.take_append_drop, List.length_take, Nat.min_eq_left h] at this
  exact this
theorem drop_cons {xs : List Int} {p : Nat} (h : p < xs.length) : xs.drop p = xs.getD p 0 :: xs.drop (p + 1) := by
  rw [List.drop_eq_getElem_cons h, List.getD_eq_getElem?_getD, List.getElem?_eq_getElem h]; rfl
theorem pow_pos' (w k : Nat) : (0 : Int) < (2 ^ w) ^ k := Int.pow_pos (two_pos w)
theorem pow_mono' (w : Nat) {i k : Nat} (h : i ≤ k) : ((2 : Int) ^ w) ^ i ≤ (2 ^ w) ^ k := by exact_mod_cast Nat.pow_le_pow_right (Nat.two_pow_pos w) h
theorem cmp_len {w : Nat} {xs ys : List Int} (a : Dig w xs) (b : Can w ys) (h : xs.length < ys.length) : val w xs < val w ys := by
  have h1 := val_lt a
  obtain ⟨p, hp⟩ : ∃ p, ys.length = p + 1 := ⟨ys.length - 1, by omega⟩
  have h2 := val_split w (xs := ys) (p := p) (by omega)
  have e : ys.drop p = [ys.getD p 0] := by
    rw [drop_cons (by omega), List.drop_eq_nil_iff.mpr (by omega)]
  rw [e] at h2
  have hl : ys.getLast? = some (ys.getD p 0) := by
    rw [List.getLast?_eq_getElem?, hp]
    simp only [Nat.add_sub_cancel]
    rw [List.getD_eq_getElem?_getD, List.getElem?_eq_getElem (by omega)]; rfl
  have hn : ys.getD p 0 ≠ 0 := fun q => b.last (by rw [hl, q])
  have hd := b.d (ys.getD p 0) (List.mem_of_getLast? hl)
  have h3 := val_nonneg (b.d.take p)
  have h4 : ((2 : Int) ^ w) ^ xs.length ≤ (2 ^ w) ^ p := pow_mono' w (by omega)
  have h5 : ((2 : Int) ^ w) ^ p * 1 ≤ (2 ^ w) ^ p * ys.getD p 0 := Int.mul_le_mul_of_nonneg_left (by omega) (Int.le_of_lt (pow_pos' w p))
  simp only [val, Int.mul_zero, Int.add_zero] at h2
  omega
theorem cmp_at {w : Nat} {xs ys : List Int} {p : Nat} (a : Dig w xs) (b : Dig w ys) (hx : p < xs.length) (hy : p < ys.length) (e : xs.drop (p + 1) = ys.drop (p + 1)) (lt : xs.getD p 0 < ys.getD p 0) : val w xs < val w ys := by
  have h1 := val_split w (xs := xs) (p := p) (by omega)
  have h2 := val_split w (xs := ys) (p := p) (by omega)
  rw [drop_cons hx] at h1
  rw [drop_cons hy, ← e] at h2
  simp only [val] at h1 h2
  have h3 := val_lt (a.take p)
  rw [List.length_take, Nat.min_eq_left (by omega)] at h3
  have h4 := val_nonneg (b.take p)
  have h5 : ((2 : Int) ^ w) ^ p * (xs.getD p 0 + 1) ≤ (2 ^ w) ^ p * ys.getD p 0 := Int.mul_le_mul_of_nonneg_left (by omega) (Int.le_of_lt (pow_pos' w p))
  rw [Int.mul_add] at h1 h2
  rw [Int.mul_add, Int.mul_one] at h5
  omega
/-- the outcome of a comparison -/
def sgn (a b : Int) : Int := if a < b then -1 else if a = b then 0 else 1
theorem sgn_lt {a b : Int} (h : a < b) : sgn a b = -1 := if_pos h
theorem sgn_gt {a b : Int} (h : b < a) : sgn a b = 1 := by unfold sgn; rw [if_neg (by omega), if_neg (by omega)]
theorem sgn_eq {a b : Int} (h : a = b) : sgn a b = 0 := by unfold sgn; rw [if_neg (by omega), if_pos h]
end Mine
namespace Mine

theorem two_cast (w : Nat) : ((2 ^ w : Nat) : Int) = 2 ^ w := by norm_cast
theorem mask_eq {w : Nat} {c : Int} (hc : 0 ≤ c) : Builtin.bitAnd c (2 ^ w - 1) = c % 2 ^ w := by
  have p := two_pos w
  unfold Builtin.bitAnd
  rw [decide_eq_true hc, decide_eq_true (show (0 : Int) ≤ 2 ^ w - 1 by omega)]
  have e : (2 ^ w - 1 : Int).toNat = 2 ^ w - 1 := by
    have := two_cast w
    omega
  simp only [e, Nat.and_two_pow_sub_one_eq_mod]
  have h1 : ((c.toNat % 2 ^ w : Nat) : Int) = c % 2 ^ w := by
    rw [Int.natCast_emod, two_cast, Int.toNat_of_nonneg hc]
  exact h1
theorem shr_eq {w : Nat} {c : Int} (hc : 0 ≤ c) : c.fdiv (2 ^ ((w : Nat) : Int).toNat) = c / 2 ^ w := by
  rw [Int.toNat_natCast]
  exact Int.fdiv_eq_ediv_of_nonneg _ (Int.le_of_lt (two_pos w))
theorem split_eq (w : Nat) (c : Int) : c = c % 2 ^ w + 2 ^ w * (c / 2 ^ w) := (Int.emod_add_mul_ediv c (2 ^ w)).symm
theorem mod_lo (w : Nat) (c : Int) : 0 ≤ c % 2 ^ w ∧ c % 2 ^ w < 2 ^ w := ⟨Int.emod_nonneg _ (Int.ne_of_gt (two_pos w)), Int.emod_lt_of_pos _ (two_pos w)⟩
theorem div_lo {w : Nat} {c : Int} (hc : 0 ≤ c) : 0 ≤ c / 2 ^ w := Int.ediv_nonneg hc (Int.le_of_lt (two_pos w))
theorem div_lt {w : Nat} {c k : Int} (h : c < 2 ^ w * k) : c / 2 ^ w < k := Int.ediv_lt_of_lt_mul (two_pos w) (by rw [Int.mul_comm] at h; exact h)
theorem two_w {w : Nat} (h : 1 ≤ w) : (2 : Int) ≤ 2 ^ w := by
  have := Nat.pow_le_pow_right (n := 2) (by decide) h
  have e := two_cast w
  omega
theorem two_9 {w : Nat} (h : w ≤ 9) : (2 : Int) ^ w ≤ 512 := by
  have := Nat.pow_le_pow_right (n := 2) (by decide) h
  have e := two_cast w
  omega
theorem one_shl {w : Nat} : (1 : Int) * 2 ^ ((w : Nat) : Int).toNat - 1 = 2 ^ w - 1 := by rw [Int.toNat_natCast, Int.one_mul]
theorem dig_len {w a : Nat} (hw : 1 ≤ w) (h : a < 2 ^ 60) : (dig w a).length ≤ 60 := by
  refine digF_len w a a 60 (Nat.lt_of_lt_of_le h ?_)
  rw [← Nat.pow_mul]
  exact Nat.pow_le_pow_right (by decide) (by omega)
abbrev nV (w a : Nat) : V := .list ((dig w a).map V.int)
/-- a digit more -/
theorem val_more {w : Nat} {xs : List Int} {i : Nat} (h : xs.length = i) (x : Int) : val w (xs ++ [x]) = val w xs + (2 ^ w) ^ i * x := by rw [val_snoc, h]
theorem pow_next (w i : Nat) (x : Int) : ((2 : Int) ^ w) ^ (i + 1) * x = (2 ^ w) ^ i * (2 ^ w * x) := by rw [Int.pow_succ, Int.mul_assoc]
/-- one turn of a sum with a carry -/
theorem carry_turn {w i : Nat} {found : List Int} {c c' s : Int} (hl : found.length = i) (hc : 0 ≤ c') (e : val w found + (2 ^ w) ^ i * c' = s) :
    val w (found ++ [c' % 2 ^ w]) + (2 ^ w) ^ (i + 1) * (c' / 2 ^ w) = s := by
  rw [val_more hl, pow_next, Int.add_assoc, ← Int.mul_add, ← split_eq w c', e]
end Mine
namespace Mine
theorem can_low {w : Nat} {ys : List Int} (b : Can w ys) {p : Nat} (hp : ys.length = p + 1) : (2 ^ w : Int) ^ p ≤ val w ys := by
  have h2 := val_split w (xs := ys) (p := p) (by omega)
  have e : ys.drop p = [ys.getD p 0] := by
    rw [drop_cons (by omega), List.drop_eq_nil_iff.mpr (by omega)]
  rw [e] at h2
  have hl : ys.getLast? = some (ys.getD p 0) := by
    rw [List.getLast?_eq_getElem?, hp]
    simp only [Nat.add_sub_cancel]
    rw [List.getD_eq_getElem?_getD, List.getElem?_eq_getElem (by omega)]; rfl
  have hn : ys.getD p 0 ≠ 0 := fun q => b.last (by rw [hl, q])
  have hd := b.d (ys.getD p 0) (List.mem_of_getLast? hl)
  have h3 := val_nonneg (b.d.take p)
  have h5 : ((2 : Int) ^ w) ^ p * 1 ≤ (2 ^ w) ^ p * ys.getD p 0 := Int.mul_le_mul_of_nonneg_left (by omega) (Int.le_of_lt (pow_pos' w p))
  simp only [val, Int.mul_zero, Int.add_zero] at h2
  omega
theorem can_of_ge {w : Nat} {xs zs : List Int} (a : Can w xs) (d : Dig w zs) (hl : zs.length = xs.length) (h : val w xs ≤ val w zs) : Can w zs := by
  refine ⟨d, fun q => ?_⟩
  cases hx : xs.length with
  | zero =>
    rw [hx] at hl
    rw [List.length_eq_zero_iff.mp hl] at q; cases q
  | succ p =>
    have h1 := can_low a hx
    rw [hx] at hl
    have h2 := val_split w (xs := zs) (p := p) (by omega)
    have e : zs.drop p = [zs.getD p 0] := by
      rw [drop_cons (by omega), List.drop_eq_nil_iff.mpr (by omega)]
    have hz : zs.getD p 0 = 0 := by
      rw [List.getLast?_eq_getElem?, hl, Nat.add_sub_cancel] at q
      rw [List.getD_eq_getElem?_getD, q]; rfl
    rw [e, hz] at h2
    have h3 := val_lt (d.take p)
    rw [List.length_take, Nat.min_eq_left (by omega)] at h3
    simp only [val, Int.mul_zero, Int.add_zero] at h2
    omega
theorem can_snoc {w : Nat} {xs : List Int} {x : Int} (d : Dig w xs) (h0 : 0 < x) (h1 : x < 2 ^ w) : Can w (xs ++ [x]) := by
  refine ⟨d.snoc (by omega) h1, ?_⟩
  rw [List.getLast?_append]
  simp only [List.getLast?_singleton, Option.some_or, ne_eq, Option.some.injEq]
  omega
end Mine
namespace Mine
theorem nV_eq {w n : Nat} {xs : List Int} (hw : 0 < w) (c : Can w xs) (e : val w xs = n) : nV w n = .list (xs.map V.int) := by rw [nV, ← can_eq hw c e]
end Mine
namespace Mine

theorem val_set (w : Nat) : ∀ (xs : List Int) (p : Nat) (v : Int), p < xs.length → val w (xs.set p v) = val w xs + (2 ^ w) ^ p * (v - xs.getD p 0)
  | [], p, v, h => by simp at h
  | x :: xs, 0, v, h => by
    simp only [List.set_cons_zero, val, Int.pow_zero, Int.one_mul, List.getD_cons_zero]
    omega
  | x :: xs, p + 1, v, h => by
    have ih := val_set w xs p v (by simpa using h)
    simp only [List.set_cons_succ, val, List.getD_cons_succ]
    rw [ih, Int.mul_add, Int.pow_succ, Int.mul_comm ((2 ^ w) ^ p) (2 ^ w), Int.mul_assoc, ← Int.add_assoc]
theorem getD_set_ne {xs : List Int} {p q : Nat} {v : Int} (h : p ≠ q) : (xs.set p v).getD q 0 = xs.getD q 0 := by
  rw [List.getD_eq_getElem?_getD, List.getD_eq_getElem?_getD, List.getElem?_set_ne h]
theorem zeros_dig (w k : Nat) : Dig w (List.replicate k 0) := fun x h => by rw [List.eq_of_mem_replicate h]; exact ⟨Int.le_refl _, two_pos w⟩
theorem zeros_val (w : Nat) : ∀ k, val w (List.replicate k 0) = 0
  | 0 => rfl
  | k + 1 => by rw [List.replicate_succ]; simp [val, zeros_val w k]
theorem zeros_getD (k p : Nat) : (List.replicate k (0 : Int)).getD p 0 = 0 := by
  rw [List.getD_eq_getElem?_getD, List.getElem?_replicate]
  split <;> rfl
theorem mul_le_sq {b x y : Int} (hx : 0 ≤ x) (hx' : x < b) (hy : 0 ≤ y) (hy' : y < b) : 0 ≤ x * y ∧ x * y + 2 * b ≤ b * b + 1 := by
  refine ⟨Int.mul_nonneg hx hy, ?_⟩
  have h1 : x * y ≤ (b - 1) * (b - 1) := Int.mul_le_mul (by omega) (by omega) hy (by omega)
  rw [Int.sub_mul, Int.mul_sub, Int.mul_one, Int.one_mul] at h1
  omega
/-- one turn of the inner loop of a product -/
theorem mul_turn {w p : Nat} {found : List Int} {carry x y s : Int} (hp : p < found.length) (d : Dig w found) (hx : 0 ≤ x ∧ x < 2 ^ w) (hy : 0 ≤ y ∧ y < 2 ^ w) (hc : 0 ≤ carry ∧ carry < 2 ^ w) (e : val w found + (2 ^ w) ^ p * carry = s) :
    0 ≤ carry + (found.getD p 0 + x * y) ∧ 0 ≤ (carry + (found.getD p 0 + x * y)) / 2 ^ w ∧ (carry + (found.getD p 0 + x * y)) / 2 ^ w < 2 ^ w ∧
      Dig w (found.set p ((carry + (found.getD p 0 + x * y)) % 2 ^ w)) ∧
      val w (found.set p ((carry + (found.getD p 0 + x * y)) % 2 ^ w)) + (2 ^ w) ^ (p + 1) * ((carry + (found.getD p 0 + x * y)) / 2 ^ w) = s + (2 ^ w) ^ p * (x * y) := by
  have hf := d.get (get_of hp)
  obtain ⟨h1, h2⟩ := mul_le_sq hx.1 hx.2 hy.1 hy.2
  have vs := fun v => val_set w found p v hp
  generalize found.getD p 0 = f at *
  have hge : 0 ≤ carry + (f + x * y) := by omega
  refine ⟨hge, div_lo hge, div_lt (by omega), d.set p (mod_lo w _).1 (mod_lo w _).2, ?_⟩
  rw [vs, pow_next, Int.add_assoc, ← Int.mul_add]
  have e2 : (carry + (f + x * y)) % 2 ^ w - f + 2 ^ w * ((carry + (f + x * y)) / 2 ^ w) = carry + x * y := by
    have := split_eq w (carry + (f + x * y))
    omega
  rw [e2, Int.mul_add, ← Int.add_assoc, e]
theorem val_take_getD (w : Nat) (xs : List Int) (i : Nat) : val w (xs.take (i + 1)) = val w (xs.take i) + (2 ^ w) ^ i * xs.getD i 0 := by
  by_cases h : i < xs.length
  · exact val_take_succ w (get_of h)
  · rw [List.take_of_length_le (by omega), List.take_of_length_le (by omega), List.getD_eq_getElem?_getD, List.getElem?_eq_none (by omega)]; simp
theorem borrow_turn {w i : Nat} {found : List Int} {c d q s x y : Int} (hl : found.length = i) (e : val w found - (2 ^ w) ^ i * c = s) (h : x - c - y = d - 2 ^ w * q) :
    val w (found ++ [d]) - (2 ^ w) ^ (i + 1) * q = s + (2 ^ w) ^ i * x - (2 ^ w) ^ i * y := by
  have hd : d = x - c - y + 2 ^ w * q := by omega
  rw [val_more hl, pow_next, hd, Int.mul_add, Int.mul_sub, Int.mul_sub]
  omega
theorem Dig.getD {w : Nat} {xs : List Int} (d : Dig w xs) (i : Nat) : 0 ≤ xs.getD i 0 ∧ xs.getD i 0 < 2 ^ w := by
  by_cases h : i < xs.length
  · exact d.get (get_of h)
  · rw [List.getD_eq_getElem?_getD, List.getElem?_eq_none (by omega)]
    exact ⟨Int.le_refl _, two_pos w⟩
theorem getD_over {ys : List Int} {i : Nat} (h : ¬ (i : Int) < (ys.length : Nat)) : ys.getD i 0 = 0 := by
  rw [List.getD_eq_getElem?_getD, List.getElem?_eq_none (by omega)]; rfl
theorem enum_get {xs : List Int} {i : Nat} {v : V} (h : (((xs.map V.int).zipIdx 0).map (fun p => V.tuple [.int p.2, p.1]))[i]? = some v) : i < xs.length ∧ v = .tuple [.int (i : Nat), .int (xs.getD i 0)] := by
  rw [List.getElem?_map, Option.map_eq_some_iff] at h
  obtain ⟨q, h1, rfl⟩ := h
  rw [List.getElem?_zipIdx, Option.map_eq_some_iff] at h1
  obtain ⟨u, h2, rfl⟩ := h1
  have hi := (List.getElem?_eq_some_iff.mp h2).1
  rw [List.length_map] at hi
  rw [getD_map hi] at h2
  cases h2
  exact ⟨hi, by rw [Nat.zero_add]⟩
theorem enum_len {xs : List Int} : (((xs.map V.int).zipIdx 0).map (fun p => V.tuple [.int p.2, p.1])).length = xs.length := by simp
theorem mulok {x y : Int} (h : 0 ≤ x ∧ x < 2 ^ 60) : IntMulOk x y := by
  refine .of_left ?_
  unfold Builtin.Int.intBits
  split
  · omega
  · rename_i q
    have hx : x.natAbs ≠ 0 := by
      intro e
      have : x = 0 := by omega
      subst this; exact q rfl
    have := (Nat.log2_lt hx (k := 63)).mpr (by omega)
    omega
end Mine
namespace Mine
/-- a number with a sign and limbs -/
abbrev sV (w : Nat) (i : Int) : V := .tuple [.bool (decide (i < 0)), nV w i.natAbs]
theorem dig_nil_iff {w k : Nat} (hw : 1 ≤ w) : (dig w k).length = 0 ↔ k = 0 := by
  constructor
  · intro h
    have := val_dig (w := w) (by omega) k
    rw [List.length_eq_zero_iff.mp h] at this
    simp only [val] at this
    omega
  · rintro rfl; rfl
theorem dig_one {w : Nat} (hw : 1 ≤ w) : dig w 1 = [1] := by
  have h : 1 < 2 ^ w := Nat.one_lt_two_pow (by omega)
  show digF w 1 1 = [1]
  unfold digF
  rw [if_neg (by decide), Nat.mod_eq_of_lt h]
  rfl
theorem bitOr_zero {x : Int} (h : 0 ≤ x) : Builtin.bitOr 0 x = x := by
  unfold Builtin.bitOr Builtin.bitAnd Builtin.bitNot
  rw [decide_eq_false (show ¬ (0 : Int) ≤ -0 - 1 by omega), decide_eq_false (show ¬ (0 : Int) ≤ -x - 1 by omega)]
  simp only
  rw [show (-(-0 - 1) - 1 : Int).toNat = 0 by omega, show (-(-x - 1) - 1 : Int).toNat = x.toNat by omega, Nat.zero_or]
  omega
end Mine
namespace Mine
theorem sV_mk {w k : Nat} {b : Bool} {i : Int} (h1 : (b && decide (0 < k)) = decide (i < 0)) (h2 : k = i.natAbs) : V.tuple [.bool (b && decide (0 < k)), nV w k] = sV w i := by rw [h1, h2]
theorem sg_neg (i : Int) : (!decide (i < 0) && decide (0 < i.natAbs)) = decide (-i < 0) := by
  rw [Bool.eq_iff_iff]
  simp only [Bool.and_eq_true, Bool.not_eq_true', decide_eq_false_iff_not, decide_eq_true_eq]
  omega
theorem sg_same {x y : Int} (h : decide (x < 0) = decide (y < 0)) : (decide (x < 0) && decide (0 < x.natAbs + y.natAbs)) = decide (x + y < 0) ∧ x.natAbs + y.natAbs = (x + y).natAbs := by
  have h' : x < 0 ↔ y < 0 := by simpa using h
  constructor
  · rw [Bool.eq_iff_iff]
    simp only [Bool.and_eq_true, decide_eq_true_eq]
    omega
  · omega
theorem sg_diff {x y : Int} (h : ¬ decide (x < 0) = decide (y < 0)) (hl : x.natAbs ≤ y.natAbs) : (decide (y < 0) && decide (0 < y.natAbs - x.natAbs)) = decide (x + y < 0) ∧ y.natAbs - x.natAbs = (x + y).natAbs := by
  have h' : ¬ (x < 0 ↔ y < 0) := by simpa using h
  constructor
  · rw [Bool.eq_iff_iff]
    simp only [Bool.and_eq_true, decide_eq_true_eq]
    omega
  · omega
theorem sg_mul (x y : Int) : ((decide (x < 0) != decide (y < 0)) && decide (0 < x.natAbs * y.natAbs)) = decide (x * y < 0) ∧ x.natAbs * y.natAbs = (x * y).natAbs := by
  refine ⟨?_, (Int.natAbs_mul x y).symm⟩
  rw [← Int.natAbs_mul, Bool.eq_iff_iff]
  simp only [Bool.and_eq_true, decide_eq_true_eq, bne_iff_ne, ne_eq, decide_eq_decide]
  rcases Int.lt_trichotomy x 0 with hx | hx | hx <;> rcases Int.lt_trichotomy y 0 with hy | hy | hy
  · have := Int.mul_pos_of_neg_of_neg hx hy; omega
  · subst hy; simp
  · have := Int.mul_neg_of_neg_of_pos hx hy; omega
  · subst hx; simp
  · subst hx; simp
  · subst hx; simp
  · have := Int.mul_neg_of_pos_of_neg hx hy; omega
  · subst hy; simp
  · have := Int.mul_pos hx hy; omega
end Mine
namespace Mine
variable {g : Gl} {n : Nat} {kn : Kn} {ρ ρ' ρ₁ ρ₂ ρ₃ ρ₄ ρc : List (Str × B)}

/-- a comprehension over one name, no test -/
theorem CompR_name {x : Str} {p : Pos} {elt : Expr} (hk : keepsK kn x = true) (hn : NewIn x ρc) : ∀ (vs ys : List V) (r : Rh), (r = ρc ∨ ∃ u, r = (x, u) :: ρc) → vs.length = ys.length → (∀ (i : Nat) (v y : V), vs[i]? = some v → ys[i]? = some y → Ev g n kn ((x, .fz v) :: ρc) elt (.fz y)) →
    ∃ re, CompR g n kn (.Name x p) [] elt vs r ys re
  | [], [], r, _, _, _ => ⟨r, .done⟩
  | [], _ :: _, _, _, h, _ => by simp at h
  | _ :: _, [], _, _, h, _ => by simp at h
  | v :: vs, y :: ys, r, hr, hl, h => by
    obtain ⟨re, hc⟩ := CompR_name (elt := elt) (p := p) hk hn vs ys ((x, .fz v) :: ρc) (.inr ⟨_, rfl⟩) (by simpa using hl) (fun i v' y' h1 h2 => h (i + 1) v' y' (by simpa using h1) (by simpa using h2))
    refine ⟨re, CompR.take (r₁ := (x, .fz v) :: ρc) (.name ?_ hk) rfl (h 0 v y rfl rfl) hc⟩
    rcases hr with rfl | ⟨u, rfl⟩
    · exact .new hn
    · exact .put .here

/-- rows of signed numbers -/
abbrev rowV (w : Nat) (r : List Int) : V := .list (r.map (sV w))
abbrev matV (w : Nat) (m : List (List Int)) : V := .list (m.map (rowV w))
theorem row_get {w : Nat} {r : List Int} {i : Nat} (h : i < r.length) : (r.map (sV w))[i]? = some (sV w (r.getD i 0)) := by
  rw [List.getElem?_map, List.getElem?_eq_getElem h, List.getD_eq_getElem?_getD, List.getElem?_eq_getElem h]; rfl
theorem mat_get {w : Nat} {m : List (List Int)} {i : Nat} (h : i < m.length) : (m.map (rowV w))[i]? = some (rowV w (m.getD i [])) := by
  rw [List.getElem?_map, List.getElem?_eq_getElem h, List.getD_eq_getElem?_getD, List.getElem?_eq_getElem h]; rfl
theorem Ev_rowI {w : Nat} {v i : Expr} {p : Pos} {r : List Int} {k : Nat} (h1 : Ev g n kn ρ v (.fz (rowV w r))) (h2 : Ev g n kn ρ i (.fz (.int (k : Nat)))) (h : k < r.length ∧ r.length ≤ 1000)
    (hs : ∀ o i', subscripted i false o i' = operate [o, i'] (getItem o i') := by intros; with_unfolding_all rfl) : Ev g n kn ρ (.Subscript v i p) (.fz (sV w (r.getD k 0))) :=
  Ev_item h1 h2 (by omega) (by omega) (by rw [Int.toNat_natCast]; exact row_get h.1) hs
theorem Ev_matI {w : Nat} {v i : Expr} {p : Pos} {m : List (List Int)} {k : Nat} (h1 : Ev g n kn ρ v (.fz (matV w m))) (h2 : Ev g n kn ρ i (.fz (.int (k : Nat)))) (h : k < m.length ∧ m.length ≤ 1000)
    (hs : ∀ o i', subscripted i false o i' = operate [o, i'] (getItem o i') := by intros; with_unfolding_all rfl) : Ev g n kn ρ (.Subscript v i p) (.fz (rowV w (m.getD k []))) :=
  Ev_item h1 h2 (by omega) (by omega) (by rw [Int.toNat_natCast]; exact mat_get h.1) hs
theorem Ev_matOwn {w : Nat} {x : Str} {q : Pos} {i : Expr} {p : Pos} {m : List (List Int)} {k : Nat} (h1 : (x, B.own (m.map (rowV w))) ∈ ρ) (h2 : Ev g n kn ρ i (.fz (.int (k : Nat)))) (h : k < m.length ∧ m.length ≤ 1000)
    (hs : ∀ o i', subscripted i false o i' = operate [o, i'] (getItem o i') := by intros; with_unfolding_all rfl) (hd : (x == ("__debug__" : Str)) = false := by decide) : Ev g n kn ρ (.Subscript (.Name x q) i p) (.fz (rowV w (m.getD k []))) :=
  Ev_itemOwn h1 h2 (by omega) (by omega) (by rw [Int.toNat_natCast]; exact mat_get h.1) hs hd
theorem Ex_setRow {w : Nat} {x : Str} {q : Pos} {i e : Expr} {p p' : Pos} {m : List (List Int)} {k : Nat} {r : List Int} {sts f P} (hx : (x, B.own (m.map (rowV w))) ∈ ρ) (h1 : Ev g n kn ρ e (.fz (rowV w r))) (h2 : Ev g n kn ρ i (.fz (.int (k : Nat)))) (h : k < m.length ∧ m.length ≤ 1000) (hp : Put x (.own ((m.set k r).map (rowV w))) ρ ρ₁) (kk : Xs g n kn ρ₁ sts f P)
    (hs : ∀ env, swapsWith e (some (.Subscript (.Name x q) i p')) p.line env = pure false := by intro _; rfl) (hd : (x == ("__debug__" : Str)) = false := by decide) : Xs g n kn ρ (.Assign [.Subscript (.Name x q) i p'] e p :: sts) f P :=
  Xs_cons (Ex_setItem hx h1 h2 (by omega) (by omega) (by simp; exact_mod_cast h.1) (by rw [List.map_set] at hp; rw [Int.toNat_natCast]; exact hp) hs hd) kk
theorem Xs_appendV {x : Str} {q : Pos} {e : Expr} {p p' pa : Pos} {xs : List V} {y : V} {sts f P} (hx : (x, B.own xs) ∈ ρ) (h : Ev g n kn ρ e (.fz y)) (hp : Put x (.own (xs ++ [y])) ρ ρ₁) (hz : xs.length ≤ 1000000) (k : Xs g n kn ρ₁ sts f P)
    (hbase : ∀ env, attributeBase (.Name x q) "append" env (eval (.Name x q) env) = eval (.Name x q) env := by intro _; rfl) (he : ∀ env, starEach [e] env = [(false, eval e env)] := by intro _; rfl)
    (hline : (pa.endLine == p.line) = true := by rfl) (hd : (x == ("__debug__" : Str)) = false := by decide) : Xs g n kn ρ (.Expr (.Call (.Attribute (.Name x q) "append" pa) [e] [] p) p' :: sts) f P := Xs_cons (Ex_append hx h hz hp hbase he hline hd) k
theorem enumV_get {xs : List V} {i : Nat} {v : V} (h : ((xs.zipIdx 0).map (fun p => V.tuple [.int p.2, p.1]))[i]? = some v) : ∃ u, xs[i]? = some u ∧ v = .tuple [.int (i : Nat), u] := by
  rw [List.getElem?_map, Option.map_eq_some_iff] at h
  obtain ⟨q, h1, rfl⟩ := h
  rw [List.getElem?_zipIdx, Option.map_eq_some_iff] at h1
  obtain ⟨u, h2, rfl⟩ := h1
  exact ⟨u, h2, by rw [Nat.zero_add]⟩
theorem enumV_len {xs : List V} : ((xs.zipIdx 0).map (fun p => V.tuple [.int p.2, p.1])).length = xs.length := by simp
/-- len of a list of the frame's own -/
theorem Ev_lenOwn {x : Str} {q p q' : Pos} {xs : List V} {k : Nat} (hx : (x, B.own xs) ∈ ρ) (hl : xs.length = k) (hz : k ≤ 1000)
    (hk : kn.lookup ("len" : Str) = some .globalImplicit := by rfl) (hd : (x == ("__debug__" : Str)) = false := by decide)
    (hcall : ∀ env, eval (.Call (.Name "len" q') (.Name x q :: []) [] p) env = (do callWith p (← eval (.Name "len" q') env) [] (backTo p (starEach (.Name x q :: []) env)) (backToKw p (keywordEach [] env))) := by intro _; rfl) :
    Ev g n kn ρ (.Call (.Name "len" q') [.Name x q] [] p) (.fz (.int (k : Nat))) := by
  subst hl
  exact Ev_callOwn (Ev_builtin rfl (by decide) (by decide) hk) hx EvF_nil .builtin (Fn_len (by omega)) free_int hcall (by intro _; rfl) (by intro _; rfl) hd

end Mine
namespace Mine
variable {g : Gl} {n : Nat} {kn : Kn} {ρ ρ' ρ₁ ρ₂ ρ₃ ρ₄ ρc : List (Str × B)}
theorem Ev_callOwnN {k : Nat} {x z : Str} {q p q' : Pos} {es : List Expr} {xs : List V} {zs : List V} {y : V} (hx : (x, B.own xs) ∈ ρ) (h2 : EvF g n kn ρ es zs) (h3 : FnN g n k (.list xs :: zs) y) (hy : ∀ H H' v, Den H y v → Den H' y v) (hn : (dAt k).name = z := by rfl) (hk : k < 53 ∧ k ∉ [0,1,2,3,13,21,29,30,31,37,45] := by decide)
    (hg : kn.lookup z = some .globalImplicit := by rfl) (hd : (z == ("__debug__" : Str)) = false := by decide)
    (hcall : ∀ env, eval (.Call (.Name z q') (.Name x q :: es) [] p) env = (do callWith p (← eval (.Name z q') env) [] (backTo p (starEach (.Name x q :: es) env)) (backToKw p (keywordEach [] env))) := by intro _; rfl)
    (he : ∀ env, starEach (.Name x q :: es) env = (false, eval (.Name x q) env) :: starEach es env := by intro _; rfl) (hp : ∀ env, (backTo p (starEach es env)).any (·.1) = false := by intro _; rfl) (hd2 : (x == ("__debug__" : Str)) = false := by decide) :
    Ev g n kn ρ (.Call (.Name z q') (.Name x q :: es) [] p) (.fz y) := by
  intro F τ H s ok st
  obtain ⟨a, o, pm, code, doc, hm, ho, hdat, hcd⟩ := ok.gok.fn _ (dAt_mem hk.1 hk.2)
  exact Ev_callOwn (Ev_fun (hn ▸ hm) hg hd) hx h2 (.fn ho hdat) (h3 a hm) hy hcall he hp hd2 F τ H s ok st
theorem CompOk.of {scope : Scope} (kind : scope.kind = .function) (top : kn.lookup (".0" : Str) = none) (free : (scope.names.all fun e => e.2 != .free || kn.lookup e.1 == some .cell) = true) (dot : ((remap kn scope.names).lookup (".0" : Str)).isSome = true)
    (nc : (scope.names.all fun e => e.2 != .cell) = true) (loc : (scope.names.all fun e => e.2 != .local || (remap kn scope.names).lookup e.1 == some .local) = true) : CompOk kn scope where
  kind := kind
  top := top
  free := fun x hx => by
    have := List.all_eq_true.mp free _ hx
    simpa using this
  dot := fun q => by rw [q] at dot; cases dot
  nc := fun x hx => by
    have := List.all_eq_true.mp nc _ hx
    simpa using this
  loc := fun x hx e => by
    have := List.all_eq_true.mp loc _ hx
    simp only [e] at this
    simpa using this
theorem Sees.none {cn : Kn} : Sees kn ρ cn [] := ⟨List.nodup_nil, fun e h => nomatch h⟩
end Mine
namespace Mine
variable {g : Gl} {n : Nat} {kn : Kn} {ρ ρ' ρ₁ ρ₂ ρ₃ ρ₄ ρc : List (Str × B)}
theorem Ev_lenName {x : Str} {q p q' : Pos} {xs : List V} {k : Nat} (hx : (x, B.fz (.list xs)) ∈ ρ) (hl : xs.length = k) (hz : k ≤ 1000)
    (hk : kn.lookup ("len" : Str) = some .globalImplicit := by rfl) (hd : (x == ("__debug__" : Str)) = false := by decide)
    (hcall : ∀ env, eval (.Call (.Name "len" q') (.Name x q :: []) [] p) env = (do callWith p (← eval (.Name "len" q') env) [] (backTo p (starEach (.Name x q :: []) env)) (backToKw p (keywordEach [] env))) := by intro _; rfl) :
    Ev g n kn ρ (.Call (.Name "len" q') [.Name x q] [] p) (.fz (.int (k : Nat))) := by
  subst hl
  exact Ev_call (Ev_builtin rfl (by decide) (by decide) hk) (EvF_cons (Ev_name hx hd) EvF_nil (by intro _; rfl)) .builtin (Fn_len (by omega)) hcall (by intro _; rfl) (by intro _; rfl)
end Mine
namespace Mine
variable {g : Gl} {n : Nat} {kn : Kn} {ρ ρ' ρ₁ ρ₂ ρ₃ ρ₄ ρc : List (Str × B)}
theorem Xs_mid {t : Expr} {a : List Stmt} {p : Pos} {c : Bool} {sts f Post} (h1 : Tr g n kn ρ t c) (h2 : c = true → Xs g n kn ρ a .next (fun r => r = ρ')) (h3 : c = false → ρ = ρ') (k : Xs g n kn ρ' sts f Post) : Xs g n kn ρ (.If t a [] p :: sts) f Post := by
  cases c with
  | true =>
    obtain ⟨r, h, rfl⟩ := h2 rfl
    exact Xs_cons (Ex_ifT h1 h) k
  | false =>
    cases h3 rfl
    exact Xs_cons (Ex_ifF h1 Exs_nil) k
end Mine
namespace Mine
variable {g : Gl} {n : Nat} {kn : Kn} {ρ ρ' ρ₁ ρ₂ ρ₃ ρ₄ ρc : List (Str × B)}
theorem CompR_pairIf {α : Type} {va vb out : α → V} {f : α → Bool} {x y : Str} {px py tp : Pos} {c : Nat} {test elt : Expr} (kx : keepsK kn x = true) (ky : keepsK kn y = true) (hxy : y ≠ x)
    (ht : ∀ p, Tr g n kn [(y, .fz (vb p)), (x, .fz (va p))] test (f p)) (he : ∀ p, Ev g n kn [(y, .fz (vb p)), (x, .fz (va p))] elt (.fz (out p))) : ∀ (ws : List α) (r : Rh), (r = [] ∨ ∃ a b, r = [(y, a), (x, b)]) →
    ∃ re, CompR g n kn (.Tuple [.Name x px, .Name y py] c tp) [test] elt (ws.map fun p => .tuple [va p, vb p]) r ((ws.filter f).map out) re
  | [], r, _ => ⟨r, .done⟩
  | p :: ws, r, hr => by
    obtain ⟨re, hc⟩ := CompR_pairIf (px := px) (py := py) (tp := tp) (c := c) kx ky hxy ht he ws [(y, .fz (vb p)), (x, .fz (va p))] (.inr ⟨_, _, rfl⟩)
    have hb : Bnd kn (.Tuple [.Name x px, .Name y py] c tp) (.tuple [va p, vb p]) r [(y, .fz (vb p)), (x, .fz (va p))] := by
      rcases hr with rfl | ⟨a, b, rfl⟩
      · exact .pair (.new .nil) (.new (.cons hxy .nil)) kx ky
      · exact .pair (.put (.skip .here)) (.put .here) kx ky
    cases hf : f p with
    | true =>
      rw [List.filter_cons_of_pos hf]
      exact ⟨re, .takeIf hb rfl (hf ▸ ht p) (he p) hc⟩
    | false =>
      rw [List.filter_cons_of_neg (by rw [hf]; decide)]
      exact ⟨re, .skip hb rfl (hf ▸ ht p) hc⟩
end Mine
namespace Mine
theorem digF_any {w f n : Nat} (hw : 1 ≤ w) (h : n ≤ f) : digF w f n = dig w n := can_eq (by omega) ⟨digF_Dig w f n, digF_last (by omega) f n h⟩ (digF_val (by omega) f n h)
theorem dig_step {w n : Nat} (hw : 1 ≤ w) (h : n ≠ 0) : dig w n = ((n % 2 ^ w : Nat) : Int) :: dig w (n / 2 ^ w) := by
  obtain ⟨f, rfl⟩ : ∃ f, n = f + 1 := ⟨n - 1, by omega⟩
  show digF w (f + 1) (f + 1) = _
  unfold digF
  rw [if_neg h]
  have p2 : 1 < 2 ^ w := Nat.one_lt_two_pow (by omega)
  have lt : (f + 1) / 2 ^ w < f + 1 := Nat.div_lt_self (by omega) p2
  rw [digF_any hw (by omega)]
theorem pow_nat {w : Nat} : (2 : Int) ^ ((w : Nat) : Int).toNat = ((2 ^ w : Nat) : Int) := by rw [Int.toNat_natCast, two_cast]
theorem fmod_nat {a b : Nat} : (a : Int).fmod (b : Int) = ((a % b : Nat) : Int) := by
  rw [Int.fmod_eq_emod_of_nonneg _ (Int.natCast_nonneg _)]; norm_cast
theorem fdiv_nat {a b : Nat} : (a : Int).fdiv (b : Int) = ((a / b : Nat) : Int) := by
  rw [Int.fdiv_eq_ediv_of_nonneg _ (Int.natCast_nonneg _)]; norm_cast
theorem noPylong {x y : Int} (h : y.natAbs < 2 ^ 60) : Builtin.divisionGoesByPylong x y = false := by
  unfold Builtin.divisionGoesByPylong
  simp only [Bool.and_eq_false_iff, decide_eq_false_iff_not]
  left
  split
  · omega
  · rename_i q
    have hx : y.natAbs ≠ 0 := by
      intro e
      have : y = 0 := by omega
      subst this; exact q rfl
    have := (Nat.log2_lt hx (k := 60)).mpr h
    omega
theorem bits_le {x : Int} {k : Nat} (h : x.natAbs < 2 ^ k) : Builtin.Int.intBits x ≤ k := by
  unfold Builtin.Int.intBits
  split
  · omega
  · rename_i q
    have hx : x.natAbs ≠ 0 := by
      intro e
      have : x = 0 := by omega
      subst this; exact q rfl
    have := (Nat.log2_lt hx (k := k)).mpr h
    omega
end Mine
namespace Mine
variable {g : Gl} {n : Nat} {kn : Kn} {ρ ρ' ρ₁ ρ₂ : List (Str × B)}

/-- a def whose first line stores into a list given it, and whose later lines only read it -/
theorem NextC_of {many k r : Int} {ps : List Int} {i e : Expr} {q p p' : Pos} {rest : List Stmt} (hbody : (dAt 46).body = .Assign [.Subscript (.Name "yard" q) i p'] e p :: rest)
    (he : Ev g n (dAt 46).scope.names ([("yard", .own [.int k, .list (ps.map .int)]), ("many", .fz (.int many))] : List (Str × B)) e (.fz (.int (k + 1))))
    (hi : Ev g n (dAt 46).scope.names ([("yard", .own [.int k, .list (ps.map .int)]), ("many", .fz (.int many))] : List (Str × B)) i (.fz (.int 0)))
    (hrest : ∃ ρ', Exs g n (dAt 46).scope.names ([("yard", .fz (.list [.int (k + 1), .list (ps.map .int)])), ("many", .fz (.int many))] : List (Str × B)) rest (.ret (.fz (.int r))) ρ')
    (hs : ∀ env, swapsWith e (some (.Subscript (.Name "yard" q) i p')) p.line env = pure false := by intro _; rfl)
    {a : Addr} (ha : g.mg (dAt 46).name = some (.ref a)) : NextC g (n + 1) (.ref a) many k ps r := by
  intro A H s Y items m u go room base le hHY hY hd hu
  obtain ⟨ρ', hrest⟩ := hrest
  have hd46 : dAt 46 ∈ defsOf := dAt_mem (by decide) (by decide)
  obtain ⟨a', o, pm, code, doc, hm, ho, hdat, hcd⟩ := go.fn _ hd46
  rw [ha] at hm
  cases hm
  have hbl : Le g.base.get? s.heap.get? := base.trans le
  have hcell : ∀ x ∈ (dAt 46).scope.names, x.2 ≠ .cell := by decide +kernel
  have hk : ∀ x ∈ (["yard", "many"] : List Str), (dAt 46).scope.names.lookup x = some .local := by decide +kernel
  refine wpAny_call ?_
  refine codeAny_call_def (by have := room.2.1; omega) (hbl _ _ ho) hdat (go.nolimit.keeps hbl) (hcd.keeps hbl) rfl (BindsTo.of_eq (show bindArgs (docDef (dAt 46).name (dAt 46).params (dAt 46).body (dAt 46).scope pm code doc) ⟨[.ref Y, u], []⟩ = pure ((["yard", "many"] : List Str).zip [.ref Y, u]) from rfl)) hcell ?_ (fun h₁ hns kp => ?_) rfl rfl rfl
  · intro x hx
    exact hk _ (List.of_mem_zip hx).1
  · have hlt : Y < s.heap.objs.size := Heap.lt_size hY
    have hLn : H s.heap.objs.size = none := by
      cases q : H s.heap.objs.size with
      | none => rfl
      | some o' => have := le _ _ q; rw [get_size_none] at this; cases this
    obtain ⟨env, hE⟩ : ∃ env, env = callEnv (docDef (dAt 46).name (dAt 46).params (dAt 46).body (dAt 46).scope pm code doc) s.heap.objs.size a := ⟨_, rfl⟩
    have eL : env.locals = s.heap.objs.size := by rw [hE]; rfl
    have eC : env.cells = [] := by rw [hE]; rfl
    have eS : env.scope = (dAt 46).scope := by rw [hE]; rfl
    have eG : env.globals = mainGlobals := by rw [hE]; rfl
    have eB : env.builtins = builtinsNs := by rw [hE]; rfl
    rw [← hE]
    have eK : env.scope.kind = .function := by rw [eS]; rfl
    have kY : env.kindOf "yard" = some .local := by show env.scope.names.lookup _ = _; rw [eS]; exact hk _ (by decide)
    have kM : env.kindOf "many" = some .local := by show env.scope.names.lookup _ = _; rw [eS]; exact hk _ (by decide)
    have nsE : h₁.Ns env.locals (fun x => ((["yard", "many"] : List Str).zip [Value.ref Y, u]).reverse.lookup x) := by rw [eL]; exact hns
    have sY : Stored env h₁ "yard" (.ref Y) := .inl ⟨kY, _, nsE, rfl⟩
    have sM : Stored env h₁ "many" u := .inl ⟨kM, _, nsE, rfl⟩
    have isz : ∀ h : Heap, (∃ m, h.Ns env.locals m) → (h.get? s.heap.objs.size).isSome = true := fun h q => by
      obtain ⟨m', o', es, ep, ho', _⟩ := q
      rw [eL] at ho'
      rw [ho']; rfl
    have mkOk : ∀ (s₀ : Shared) (H₀ : PH), Le g.base.get? H₀ → Le H₀ s₀.heap.get? → Okk g n (dAt 46).scope.names { env := env, A := A.deeper env, s₀ := s₀, H₀ := H₀, store := [s.heap.objs.size] } := fun s₀ H₀ b1 b2 => {
      kind := eK
      locIn := by rw [eL]; exact .head _
      cellIn := fun x c e => by
        have e' : env.cells.lookup x = some c := e
        rw [eC] at e'; cases e'
      cellInj := fun x y c e => by
        have e' : env.cells.lookup x = some c := e
        rw [eC] at e'; cases e'
      cellNe := fun x c e => by
        have e' : env.cells.lookup x = some c := e
        rw [eC] at e'; cases e'
      gok := go
      room := room.deeper
      names := by show env.scope.names = _; rw [eS]
      globals := eG
      builtins := eB
      base := b1
      h₀ := b2
      owns := fun _ x hx => absurd rfl (hcell (x, .cell) (mem_of_lookup hx)) }
    have ok1 := mkOk (erase Y s) H base (le_erase le hHY)
    have st0 : ∀ tk, St { env := env, A := A.deeper env, s₀ := erase Y s, H₀ := H, store := [s.heap.objs.size] } ([("yard", .own [.int k, .list (ps.map .int)]), ("many", .fz (.int many))] : List (Str × B)) [] H { s with heap := h₁, toks := tk } := fun tk => {
      le := le.trans kp
      keep := (erase_le Y s).trans kp
      sub := Le.refl H
      new := fun b hb => .inl hb
      gens := rfl
      drawn := rfl
      os := rfl
      ns := ⟨_, nsE⟩
      cells := fun x c e => by
        have e' : env.cells.lookup x = some c := e
        rw [eC] at e'; cases e'
      vars := by
        refine ⟨[("yard", .ref Y, .own [.int k, .list (ps.map .int)]), ("many", u, .fz (.int many))], rfl, (show (["yard", "many"] : List Str).Nodup by decide), fun e he => ?_, ⟨fun p hp => ?_, ?_, fun b hb => ?_⟩⟩
        · rcases List.mem_cons.mp he with rfl | he
          · exact sY
          · cases List.mem_singleton.mp he
            exact sM
        · rcases List.mem_cons.mp hp with rfl | hp
          · exact ⟨Y, items, rfl, ⟨m, kp _ _ hY⟩, hd⟩
          · cases List.mem_singleton.mp hp
            exact hu
        · show ([s.heap.objs.size] ++ privs ((Value.ref Y, B.own [.int k, .list (ps.map .int)]) :: (u, B.fz (.int many)) :: [])).Nodup
          rw [privs_ref rfl, privs_fz]
          show [s.heap.objs.size, Y].Nodup
          refine List.nodup_cons.mpr ⟨fun q => ?_, List.nodup_cons.mpr ⟨(fun q => nomatch q), List.nodup_nil⟩⟩
          have := List.mem_singleton.mp q
          rw [this] at hlt
          exact Nat.lt_irrefl _ hlt
        · have hb' : b ∈ [s.heap.objs.size] ++ privs ((Value.ref Y, B.own [.int k, .list (ps.map .int)]) :: (u, B.fz (.int many)) :: []) := hb
          rw [privs_ref rfl, privs_fz] at hb'
          have hb2 : b ∈ [s.heap.objs.size, Y] := hb'
          rcases List.mem_cons.mp hb2 with rfl | hb2
          · exact ⟨hLn, erase_none (get_size_none _), isz _ ⟨_, nsE⟩⟩
          · cases List.mem_singleton.mp hb2
            exact ⟨hHY, erase_self _ _, by show (h₁.get? Y).isSome = true; rw [kp _ _ hY]; rfl⟩ }
    suffices inner : wpAny (model g.prog g.w) (A.deeper env) (execs (dAt 46).body env) (fun fl s' => ∃ v, fl = .ret v ∧ LeBut Y s.heap.get? s'.heap.get? ∧ s'.gens = s.gens ∧ s'.drawn = s.drawn ∧ s'.os = s.os ∧
        ∃ items' m', s'.heap.get? Y = some (listO items' m') ∧ DenL H [.int (k + 1), .list (ps.map .int)] items' ∧ Den H (.int r) v) NoE { s with heap := h₁, toks := s.toks + ((["yard", "many"] : List Str).zip [Value.ref Y, u]).length } by
      refine wpAny_mono inner (fun fl s' h => ?_) fun _ _ e => e.elim
      obtain ⟨v, rfl, h⟩ := h
      exact h
    rw [hbody]
    refine wpAny_execs_cons (wpAny_Assign_Subscript (wpAny_mono (he _ [] H _ ok1 (st0 _)) (fun v s₁ h => ?_) fun _ _ e => e.elim) (hs _))
    obtain ⟨H₁, u1, st1⟩ := h
    have nd : (("yard" : Str) == ("__debug__" : Str)) = false := by decide
    obtain ⟨m1, hm1, e1⟩ : ∃ m, s₁.heap.Ns env.locals m ∧ m "yard" = some (.ref Y) := by
      rcases sY.mono u1.keep with ⟨_, m', h1, h2⟩ | ⟨k', _⟩
      · exact ⟨m', h1, h2⟩
      · rw [kY] at k'; cases k'
    refine wpAny_Name (wpAny_loadName_local eK kY hm1 e1 ?_) nd
    refine wpAny_mono (hi _ _ H₁ s₁ ok1 st1) (fun iv s₂ h => ?_) fun _ _ e => e.elim
    obtain ⟨H₂, u2, st2⟩ := h
    obtain ⟨t, rfl⟩ := den_int st2.topFz
    have st3 := st2.pop
    obtain ⟨t1, rfl⟩ := den_int st3.topFz
    have st4 := st3.pop
    have keep2 : Le h₁.get? s₂.heap.get? := u1.keep.trans u2.keep
    have ha2 : s₂.heap.get? Y = some (listO items m) := keep2 _ _ (kp _ _ hY)
    obtain ⟨_, hH2, _, _, _⟩ := st4.ownOff (.head _) (sY.mono keep2)
    have hlen : items.length = 2 := hd.length
    refine setItem_at (k := 0) ha2 (by decide) (by decide) (by rw [hlen]; decide) fun h' hh' hs' => ?_
    have sb := sameBut_le hs'
    have dS : DenL H [.int (k + 1), .list (ps.map .int)] (items.set (Int.toNat 0) (.int (k + 1) t1)) := hd.set 0 (x := .int (k + 1)) mk_int
    generalize items.set (Int.toNat 0) (.int (k + 1) t1) = items' at hh' dS
    have g1 : (s.heap.update Y fun _ => listO items' m).get? Y = some (listO items' m) := Heap.get?_update_self _ hY rfl
    have g2 : ∀ b, b ≠ Y → (s.heap.update Y fun _ => listO items' m).get? b = s.heap.get? b := fun b hb => Heap.get?_update_other _ _ (Ne.symm hb)
    have ok2 := mkOk { s with heap := s.heap.update Y fun _ => listO items' m } (addH H Y (listO items' m)) (base.trans (addH_le _ hHY)) (fun b o e => by
      show (s.heap.update Y fun _ => listO items' m).get? b = some o
      by_cases q : b = Y
      · subst q; rw [addH_self] at e; rw [g1, e]
      · rw [addH_ne q] at e; rw [g2 b q]; exact le _ _ e)
    have lne : env.locals ≠ Y := by rw [eL]; exact Nat.ne_of_gt hlt
    have mv : ∀ x v, Stored env s₂.heap x v → Stored env h' x v := fun x v q => q.but sb lne fun y c e => by rw [eC] at e; cases e
    have st5 : St { env := env, A := A.deeper env, s₀ := { s with heap := s.heap.update Y fun _ => listO items' m }, H₀ := addH H Y (listO items' m), store := [s.heap.objs.size] } ([("yard", .fz (.list [.int (k + 1), .list (ps.map .int)])), ("many", .fz (.int many))] : List (Str × B)) [] (addH H₂ Y (listO items' m)) { s₂ with heap := h' } := {
      le := fun b o e => by
        show h'.get? b = some o
        by_cases q : b = Y
        · subst q; rw [addH_self] at e; rw [hh', e]
        · rw [addH_ne q] at e; exact sb b o q (st4.le _ _ e)
      keep := fun b o e => by
        show h'.get? b = some o
        have e' : (s.heap.update Y fun _ => listO items' m).get? b = some o := e
        by_cases q : b = Y
        · subst q; rw [g1] at e'; rw [hh', e']
        · rw [g2 b q] at e'; exact sb b o q (keep2 _ _ (kp _ _ e'))
      sub := fun b o e => by
        have e' : addH H Y (listO items' m) b = some o := e
        by_cases q : b = Y
        · subst q; rw [addH_self] at e' ⊢; exact e'
        · rw [addH_ne q] at e' ⊢; exact st4.sub _ _ e'
      new := fun b hb => by
        show addH H Y (listO items' m) b ≠ none ∨ (s.heap.update Y fun _ => listO items' m).get? b = none
        by_cases q : b = Y
        · subst q; left; rw [addH_self]; exact fun x => nomatch x
        · rw [addH_ne q] at hb ⊢
          rw [g2 b q]
          refine (st4.new b hb).imp id fun z => ?_
          have z' : (erase Y s).heap.get? b = none := z
          rwa [erase_ne s q] at z'
      gens := st4.gens
      drawn := st4.drawn
      os := st4.os
      ns := let ⟨m', h⟩ := st4.ns; ⟨m', ns_but sb lne h⟩
      cells := fun x c e => by
        have e' : env.cells.lookup x = some c := e
        rw [eC] at e'; cases e'
      vars := by
        refine ⟨[("yard", .ref Y, .fz (.list [.int (k + 1), .list (ps.map .int)])), ("many", u, .fz (.int many))], rfl, (show (["yard", "many"] : List Str).Nodup by decide), fun e he => ?_, ⟨fun p hp => ?_, ?_, fun b hb => ?_⟩⟩
        · rcases List.mem_cons.mp he with rfl | he
          · exact mv _ _ (sY.mono keep2)
          · cases List.mem_singleton.mp he
            exact mv _ _ (sM.mono keep2)
        · have lH : Le H (addH H₂ Y (listO items' m)) := st4.sub.trans (addH_le _ hH2)
          rcases List.mem_cons.mp hp with rfl | hp
          · show Den _ (.list _) (.ref Y)
            simp only [Den]
            exact ⟨Y, items', rfl, ⟨m, addH_self _ _ _⟩, dS.mono lH⟩
          · cases List.mem_singleton.mp hp
            exact Den.mono lH _ _ hu
        · show ([s.heap.objs.size] ++ privs ((Value.ref Y, B.fz (.list [.int (k + 1), .list (ps.map .int)])) :: (u, B.fz (.int many)) :: [])).Nodup
          rw [privs_fz, privs_fz]
          exact List.nodup_cons.mpr ⟨(fun q => nomatch q), List.nodup_nil⟩
        · have hb' : b ∈ [s.heap.objs.size] ++ privs ((Value.ref Y, B.fz (.list [.int (k + 1), .list (ps.map .int)])) :: (u, B.fz (.int many)) :: []) := hb
          rw [privs_fz, privs_fz] at hb'
          have hb2 : b ∈ [s.heap.objs.size] := hb'
          cases List.mem_singleton.mp hb2
          have ne : s.heap.objs.size ≠ Y := Nat.ne_of_gt hlt
          refine ⟨?_, ?_, ?_⟩
          · rw [addH_ne ne]
            obtain ⟨σ4, _, vs4⟩ := st4.vars
            exact (vs4.good.off _ (List.mem_append_left _ (.head _))).1
          · show (s.heap.update Y fun _ => listO items' m).get? _ = none
            rw [g2 _ ne]; exact get_size_none _
          · obtain ⟨m', h⟩ := st4.ns
            exact isz _ ⟨m', ns_but sb lne h⟩ }
    refine wpAny_mono (hrest _ [] _ _ ok2 st5) (fun fl s' h => ?_) fun _ _ e => e.elim
    obtain ⟨H', l, p⟩ := h
    cases fl with
    | ret v =>
      have st6 : St _ ρ' _ H' s' := p
      obtain ⟨t2, rfl⟩ := den_int st6.topFz
      exact ⟨_, rfl, fun b o hb e => st6.keep b o ((g2 b hb).trans e), st6.gens, st6.drawn, st6.os, items', m, st6.keep _ _ g1, dS, mk_int⟩
    | next => exact p.elim
    | brk => exact p.elim
    | cont => exact p.elim
end Mine
namespace Mine
variable {g : Gl} {n : Nat} {kn : Kn} {ρ ρ' ρ₁ ρ₂ ρc ρe : List (Str × B)}

theorem Sees.cons {cn : Kn} {x : Str} {v : V} (h1 : (x, B.fz v) ∈ ρ) (h2 : (x, NameKind.free) ∈ cn) (h3 : (remap kn cn).lookup x = some .cell) (h4 : x ∉ ρc.map (·.1)) (h : Sees kn ρ cn ρc) : Sees kn ρ cn ((x, .fz v) :: ρc) :=
  ⟨List.nodup_cons.mpr ⟨h4, h.names⟩, fun e he => by
    rcases List.mem_cons.mp he with rfl | he
    · exact ⟨⟨v, rfl⟩, h1, h2, h3⟩
    · exact h.each e he⟩
/-- a comprehension over one name, no test -/
theorem EvO_comp1 {x : Str} {px pos : Pos} {elt iter : Expr} {scope : Scope} {vs ys : List V} (h1 : EvIt g n kn ρ false iter vs) (hs : Sees kn ρ scope.names ρc) (co : CompOk kn scope) (hn : NewIn x ρc) (hl : vs.length = ys.length) (hz : vs.length ≤ 1000)
    (h : ∀ (i : Nat) (v y : V), vs[i]? = some v → ys[i]? = some y → Ev g n (remap kn scope.names) ((x, .fz v) :: ρc) elt (.fz y)) (hk : keepsK (remap kn scope.names) x = true := by rfl)
    (hset : ∀ env x, foldedSetIterable iter env x = pure x := by intros; rfl) : EvO g n kn ρ (.ListComp elt [⟨.Name x px, iter, [], 0⟩] scope pos) ys := by
  obtain ⟨re, hc⟩ := CompR_name (p := px) hk hn vs ys ρc (.inl rfl) hl h
  exact EvO_comp h1 .name hs co hc (by omega) hset
/-- .. over a pair of names, with a test -/
theorem EvO_comp2 {α : Type} {va vb out : α → V} {f : α → Bool} {x y : Str} {px py tp pos : Pos} {c : Nat} {test elt iter : Expr} {scope : Scope} {ws : List α} (h1 : EvIt g n kn ρ false iter (ws.map fun p => .tuple [va p, vb p])) (co : CompOk kn scope) (hxy : y ≠ x) (hz : ws.length ≤ 1000)
    (ht : ∀ p, Tr g n (remap kn scope.names) [(y, .fz (vb p)), (x, .fz (va p))] test (f p)) (he : ∀ p, Ev g n (remap kn scope.names) [(y, .fz (vb p)), (x, .fz (va p))] elt (.fz (out p)))
    (kx : keepsK (remap kn scope.names) x = true := by rfl) (ky : keepsK (remap kn scope.names) y = true := by rfl)
    (hset : ∀ env x, foldedSetIterable iter env x = pure x := by intros; rfl) : EvO g n kn ρ (.ListComp elt [⟨.Tuple [.Name x px, .Name y py] c tp, iter, [test], 0⟩] scope pos) ((ws.filter f).map out) := by
  obtain ⟨re, hc⟩ := CompR_pairIf (px := px) (py := py) (tp := tp) (c := c) kx ky hxy ht he ws [] (.inl rfl)
  exact EvO_comp h1 .pair Sees.none co hc (by rw [List.length_map]; omega) hset
theorem Xs_assignComp1 {z x : Str} {px pos p p' : Pos} {elt iter : Expr} {scope : Scope} {vs ys : List V} {sts : List Stmt} {f : Fl} {P : Rh → Prop} (h1 : EvIt g n kn ρ false iter vs) (hs : Sees kn ρ scope.names ρc) (co : CompOk kn scope) (hn : NewIn x ρc) (hl : vs.length = ys.length) (hz : vs.length ≤ 1000)
    (h : ∀ (i : Nat) (v y : V), vs[i]? = some v → ys[i]? = some y → Ev g n (remap kn scope.names) ((x, .fz v) :: ρc) elt (.fz y)) (st : Sto kn z (.own ys) ρ ρ₁) (k : Xs g n kn ρ₁ sts f P) (hk : keepsK (remap kn scope.names) x = true := by rfl)
    (hz' : kn.lookup z = some .local := by rfl) (hli : (p'.line == pos.line) = true := by rfl) (hno : (scope.names.any fun y => y.1 == z && (y.2 == .local || y.2 == .cell)) = false := by rfl)
    (hset : ∀ env x, foldedSetIterable iter env x = pure x := by intros; rfl) : Xs g n kn ρ (.Assign [.Name z p'] (.ListComp elt [⟨.Name x px, iter, [], 0⟩] scope pos) p :: sts) f P := by
  obtain ⟨re, hc⟩ := CompR_name (p := px) hk hn vs ys ρc (.inl rfl) hl h
  exact Xs_cons (Ex_assignComp h1 .name hs co hc (by omega) st hz' hli hno hset) k
/-- a comprehension whose element turns a list at each of its turns -/
theorem CompR_turns {t x : Str} {p : Pos} {elt : Expr} {M : Nat} {Y : Nat → List V} {y : Nat → V} (hk : keepsK kn t = true) (ht : t ≠ x) (h : ∀ j v, j < M → EvM g n kn [(t, .fz v), (x, .own (Y j))] elt (.fz (y j)) [(t, .fz v), (x, .own (Y (j + 1)))]) :
    ∀ (vs : List V) (k : Nat) (r : Rh), k + vs.length ≤ M → (r = [(x, .own (Y k))] ∨ ∃ u, r = [(t, u), (x, .own (Y k))]) → ∃ re, CompR g n kn (.Name t p) [] elt vs r ((List.range' k vs.length).map y) re ∧ (x, B.own (Y (k + vs.length))) ∈ re
  | [], k, r, _, hr => by
    refine ⟨r, .done, ?_⟩
    rcases hr with rfl | ⟨u, rfl⟩
    · exact .head _
    · exact .tail _ (.head _)
  | v :: vs, k, r, hM, hr => by
    have e : k + (v :: vs).length = k + 1 + vs.length := by simp only [List.length_cons]; omega
    rw [e] at hM ⊢
    obtain ⟨re, hc, hm⟩ := CompR_turns (p := p) hk ht h vs (k + 1) [(t, .fz v), (x, .own (Y (k + 1)))] hM (.inr ⟨_, rfl⟩)
    refine ⟨re, ?_, hm⟩
    rcases hr with rfl | ⟨u, rfl⟩
    · exact .takeM (.name (.new (.cons ht .nil)) hk) rfl (h k v (by omega)) hc
    · exact .takeM (.name (.put .here) hk) rfl (h k v (by omega)) hc
theorem EvM_comp1 {t x : Str} {px pos : Pos} {elt iter : Expr} {scope : Scope} {vs : List V} {Y : Nat → List V} {y : Nat → V} {k m : Nat} (h1 : EvIt g n kn ρ false iter vs) (hm : vs.length = m) (hx : (x, B.own (Y k)) ∈ ρ) (hf : (x, NameKind.free) ∈ scope.names) (co : CompOk kn scope) (ht : t ≠ x)
    (h : ∀ j v, j < k + m → EvM g n (remap kn scope.names) [(t, .fz v), (x, .own (Y j))] elt (.fz (y j)) [(t, .fz v), (x, .own (Y (j + 1)))]) (hz : m ≤ 1000) (hp : Put x (.own (Y (k + m))) ρ ρ₁)
    (hk : keepsK (remap kn scope.names) t = true := by rfl) (hr : (remap kn scope.names).lookup x = some .cell := by rfl)
    (hset : ∀ env x, foldedSetIterable iter env x = pure x := by intros; rfl) : EvM g n kn ρ (.ListComp elt [⟨.Name t px, iter, [], 0⟩] scope pos) (.own ((List.range' k m).map y)) ρ₁ := by
  subst hm
  obtain ⟨re, hc, hxe⟩ := CompR_turns (p := px) hk ht h vs k [(x, .own (Y k))] (Nat.le_refl _) (.inl rfl)
  exact EvM_comp h1 .name hx hf hr co hc hxe (by omega) hp hset
theorem EvM.ofInt {e : Expr} {c d : Int} (h : EvM g n kn ρ e (.fz (.int c)) ρ₁) (q : c = d) : EvM g n kn ρ e (.fz (.int d)) ρ₁ := q ▸ h
theorem EvO_upTo {v e : Expr} {p pos : Pos} {xs : List V} {k : Nat} (h1 : Ev g n kn ρ v (.fz (.list xs))) (h2 : Ev g n kn ρ e (.fz (.int (k : Nat)))) (h : xs.length ≤ 1000)
    (ht : ∀ o r, letTemporaryGo v o r = pure () := by intro _ _; rfl) : EvO g n kn ρ (.Subscript v (.Slice none (some e) none p) pos) (xs.take k) := by
  by_cases q : k ≤ xs.length
  · exact EvO_to h1 h2 ⟨q, h⟩ ht
  · have := EvO_slice (pos := pos) (p := p) h1 .none (.some h2) h ht
    have e : vslice xs none (some (k : Int)) = xs.take k := by
      unfold vslice
      have c : clipAt xs.length (k : Int) = xs.length := by unfold clipAt; split <;> omega
      simp only [Option.elim, c, List.drop_zero, Nat.sub_zero]
      rw [List.take_of_length_le (Nat.le_refl _), List.take_of_length_le (by omega)]
    rwa [e] at this
end Mine
namespace Mine
-- the derivations' own steps
local macro_rules | `(tactic| fail "M.mem") => `(tactic| first | with_reducible exact List.mem_cons_self | (refine List.mem_cons_of_mem _ ?_; fail "M.mem"))
local macro_rules | `(tactic| fail "M.put") => `(tactic| first | with_reducible exact Put.here | (refine' Put.skip ?h0; (case h0 => fail "M.put")))
local macro_rules | `(tactic| fail "M.new") => `(tactic| first | exact NewIn.nil | (refine NewIn.cons (by decide) ?_; fail "M.new"))
local macro_rules | `(tactic| fail "M.sto") => `(tactic| first | (refine' Sto.put ?h0; (case h0 => fail "M.put")) | (refine' Sto.new ?h0; (case h0 => fail "M.new")))
local macro_rules | `(tactic| fail "M.side") => `(tactic| first | (refine side_nat ?_ ?_ <;> assumption) | omega | assumption | (simp only [List.length_map, List.length_append, List.length_cons, List.length_nil, List.length_set, List.length_replicate]; omega) | (refine ⟨?_, ?_, ?_⟩ <;> (first | omega | (simp only [List.length_map, List.length_append, List.length_cons, List.length_nil, List.length_set, List.length_replicate]; omega))))
local macro_rules | `(tactic| fail "M.op") => `(tactic| first | ((with_reducible show IntOp _ .Add _ _ _); exact op_add) | ((with_reducible show IntOp _ .Sub _ _ _); exact op_sub) | ((with_reducible show IntOp _ .Mult _ _ _); refine op_mul ?_; try assumption) | ((with_reducible show IntOp _ .BitAnd _ _ _); exact op_and) | ((with_reducible show IntOp _ .BitOr _ _ _); exact op_or) | ((with_reducible show IntOp _ .LShift _ _ _); refine op_shl ?_ ?_) | ((with_reducible show IntOp _ .RShift _ _ _); refine op_shr ?_) | ((with_reducible show IntOp _ .Mod _ _ _); refine op_mod ?_) | ((with_reducible show IntOp _ .FloorDiv _ _ _); refine op_div ?_ ?_) | ((with_reducible show IntOp _ .Pow _ _ _); refine op_pow ?_ ?_))
local macro_rules | `(tactic| fail "M.iop") => `(tactic| first | ((with_reducible show IntIop _ .Add _ _ _); exact iop_add) | ((with_reducible show IntIop _ .Sub _ _ _); exact iop_sub) | ((with_reducible show IntIop _ .BitOr _ _ _); exact iop_or) | ((with_reducible show IntIop _ .RShift _ _ _); refine iop_shr ?_) | ((with_reducible show IntIop _ .Mod _ _ _); refine iop_mod ?_))
local macro_rules | `(tactic| fail "M.cmp") => `(tactic| first | ((with_reducible show VCmp _ _ .Eq (.int _) (.int _) _); exact VCmp.int cmp_eq) | ((with_reducible show VCmp _ _ .NotEq (.int _) (.int _) _); exact VCmp.int cmp_ne) | ((with_reducible show VCmp _ _ .Lt (.int _) (.int _) _); exact VCmp.int cmp_lt) | ((with_reducible show VCmp _ _ .LtE (.int _) (.int _) _); exact VCmp.int cmp_le) | ((with_reducible show VCmp _ _ .Gt (.int _) (.int _) _); exact VCmp.int cmp_gt) | ((with_reducible show VCmp _ _ .GtE (.int _) (.int _) _); exact VCmp.int cmp_ge) | ((with_reducible show VCmp _ _ .Eq (.bool _) (.bool _) _); exact VCmp_eqB) | ((with_reducible show VCmp _ _ .NotEq (.bool _) (.bool _) _); exact VCmp_neB))
local macro_rules | `(tactic| fail "M.evs") => `(tactic| first | ((with_reducible show EvF _ _ _ _ [] _); exact EvF_nil) | (refine' EvF_cons ?h1 ?h2; (case' h1 => fail "M.ev"); (case' h2 => fail "M.evs")))
local macro_rules | `(tactic| fail "M.ev") => `(tactic| first
  | ((with_reducible show Ev _ _ _ _ (.Name _ _) _); refine' Ev_name ?h0; (case h0 => fail "M.mem"))
  | ((with_reducible show Ev _ _ _ _ (.Constant (.int _) _ _) _); exact Ev_int) | ((with_reducible show Ev _ _ _ _ (.Constant (.bool _) _ _) _); exact Ev_bool)
  | ((with_reducible show Ev _ _ _ _ (.BinOp _ _ _ _) _); refine' Ev_binop ?h1 ?h2 ?h3; (case' h1 => fail "M.ev"); (case' h2 => fail "M.ev"); (case' h3 => fail "M.op"))
  | ((with_reducible show Ev _ _ _ _ (.Call (.Name _ _) [_] [] _) _); refine' (Ev_call (Ev_builtin rfl (by decide)) (EvF_cons ?l1 EvF_nil) .builtin (Fn_len ?l2)).ofInt ?l3; (case' l1 => fail "M.ev"); (case' l3 => rw [List.length_map]); (case' l2 => (try fail "M.side")))
  | ((with_reducible show Ev _ _ _ _ (.UnaryOp .Not _ _) _); refine' Ev_not ?n1; (case' n1 => fail "M.ev"))
  | ((with_reducible show Ev _ _ _ _ (.Compare _ [_] [_] _) _); refine' Ev_cmp ?h1 ?h2 ?h3; (case' h1 => fail "M.ev"); (case' h2 => fail "M.ev"); (case' h3 => fail "M.cmp"))
  | ((with_reducible show Ev _ _ _ _ (.Tuple _ _ _) _); refine' Ev_tuple ?u1; (case' u1 => fail "M.evs"))
  | ((with_reducible show Ev _ _ _ _ (.IfExp _ _ _ _) _); refine' Ev_ifeI ?h1 ?h2 ?h3; (case' h1 => fail "M.tr"); (case' h2 => intro hT; fail "M.ev"); (case' h3 => intro hF; fail "M.ev"))
  | ((with_reducible show Ev _ _ _ _ (.UnaryOp .USub _ _) _); refine' Ev_neg ?g1; (case' g1 => fail "M.ev"))
  | ((with_reducible show Ev _ _ _ _ (.Subscript _ (.Constant _ _ _) _) _); refine' Ev_itemT ?t1 Ev_int ?t2 ?t3 ?t4; (case' t1 => fail "M.ev"); (case t2 => decide); (case t3 => decide); (case t4 => exact rfl))
  | ((with_reducible show Ev _ _ _ _ (.Subscript (.Name _ _) _ _) _); refine' Ev_itemOwnI ?o1 ?o2 ?o3; (case o1 => fail "M.mem"); (case' o2 => fail "M.ev"); (case' o3 => (try fail "M.side")))
  | ((with_reducible show Ev _ _ _ _ (.Subscript _ _ _) _); refine' Ev_itemI ?i1 ?i2 ?i3; (case' i1 => fail "M.ev"); (case' i2 => fail "M.ev"); (case' i3 => (try fail "M.side"))))
local macro_rules | `(tactic| fail "M.tr") => `(tactic| first
  | ((with_reducible show Tr _ _ _ _ (.Compare _ [_] [_] _) _); refine' Tr_cmp ?h1 ?h2 ?h3; (case' h1 => fail "M.ev"); (case' h2 => fail "M.ev"); (case' h3 => fail "M.cmp"))
  | ((with_reducible show Tr _ _ _ _ (.UnaryOp .Not _ _) _); refine' Tr_not ?n1; (case' n1 => fail "M.tr")))
local macro_rules | `(tactic| fail "M.st") => `(tactic| first
  | ((with_reducible show Xs _ _ _ _ (.Assign [.Name _ _] _ _ :: _) _ _); refine' Xs_assign ?h ?hs ?k; (case' h => first | fail "M.ev" | (refine' EvO.ev (EvO_list ?l); (case' l => fail "M.evs"))); (case' hs => fail "M.sto"))
  | ((with_reducible show Xs _ _ _ _ (.AugAssign _ _ _ _ :: _) _ _); refine' Xs_aug ?hx ?h ?ho ?hs ?k; (case hx => fail "M.mem"); (case' h => fail "M.ev"); (case' ho => fail "M.iop"); (case' hs => fail "M.sto"))
  | ((with_reducible show Xs _ _ _ _ (.Expr _ _ :: _) _ _); refine' Xs_append ?hx ?h ?hp ?hz ?k; (case hx => fail "M.mem"); (case' h => fail "M.ev"); (case' hp => fail "M.put"); (case' hz => (try fail "M.side")))
  | ((with_reducible show Xs _ _ _ _ (.Assign [.Subscript _ _ _] _ _ :: _) _ _); refine' Xs_setItem ?hx ?h ?h2 ?h0 ?hp ?k; (case hx => fail "M.mem"); (case' h => fail "M.ev"); (case' h2 => fail "M.ev"); (case' h0 => (try fail "M.side")); (case' hp => fail "M.put")))
local macro_rules | `(tactic| fail "M.bool") => `(tactic| first | rfl | assumption | (simp only [decide_eq_true_eq, decide_eq_false_iff_not, beq_iff_eq, beq_eq_false_iff_ne, bne_iff_ne, bne_eq_false_iff_eq, ne_eq, Bool.not_eq_true', Bool.not_eq_false', gt_iff_lt, ge_iff_le]; omega) | (simp; done) | (simp; omega))
local macro_rules | `(tactic| fail "M.if") => `(tactic| (refine' Tr.of ?h ?e; (case' h => fail "M.tr"); (case' e => (try fail "M.bool"))))
section
variable {g : Gl} {n : Nat}

theorem normal_c {xs : List Int} (hz : xs.length ≤ 1000) : FnN g (n + 1) 4 [lV xs] (lV (xs.take (nend xs xs.length))) := by
  refine FnN_of (names := ["a"]) (by decide) rfl (by decide) ?_ ?_ rfl rfl rfl ?_ (Xs.ex (P := fun _ => True) ?_) .ret
  · intro x hx; cases List.mem_singleton.mp hx; rfl
  · intro pm code doc vals h
    match vals, h with
    | [v], _ => rfl
  · decide
  conv in (dAt 4).body => whnf
  conv in (dAt 4).scope.names => whnf
  simp only [bindV, List.zip_cons_cons, List.map_cons, List.zip_nil_left, List.map_nil]
  fail "M.st"
  refine Xs_while (fun m r => m ≤ xs.length ∧ nend xs m = nend xs xs.length ∧ r = ([("end", .fz (.int (m : Nat))), ("a", .fz (lV xs))] : Rh)) (fun r => r = ([("end", .fz (.int (nend xs xs.length : Nat))), ("a", .fz (lV xs))] : Rh)) (fun m r h => ?_) xs.length ⟨Nat.le_refl _, rfl, rfl⟩ (fun r h => ?_)
  · obtain ⟨h1, h2, rfl⟩ := h
    cases m with
    | zero =>
      refine .inl ⟨Tr_and2 (a := false) (b := false) ?_ (fun h => nomatch h), by rw [← h2]; rfl⟩
      fail "M.if"
    | succ k =>
      have hk : k < xs.length := h1
      have ek : ((k + 1 : Nat) - 1 : Int) = (k : Nat) := by omega
      by_cases e : xs[k]? = some 0
      · refine .inr ⟨Tr_and2 (a := true) (b := true) ?_ (fun _ => ?_), ?_⟩
        · fail "M.if"
        · fail "M.if"
          rw [ek, Int.toNat_natCast, getD_of e]; rfl
        · fail "M.st"
          exact Xs_nil ⟨_, k, Nat.lt_succ_self _, List.Sublist.refl _, by omega, by rw [← h2, nend, if_pos e], by rw [ek]⟩
      · refine .inl ⟨Tr_and2 (a := true) (b := false) ?_ (fun _ => ?_), ?_⟩
        · fail "M.if"
        · fail "M.if"
          rw [ek, Int.toNat_natCast]
          rw [get_of hk] at e
          simpa using e
        · rw [← h2, nend, if_neg e]
  · subst h
    refine Xs_return (EvO.fzI (EvO_to (k := nend xs xs.length) ?_ ?_ ?_) (List.map_take ..).symm)
    · fail "M.ev"
    · fail "M.ev"
    · have := nend_le xs xs.length
      simp only [List.length_map]; omega
end
section
variable {g : Gl} {n : Nat}

theorem compare_c {w : Nat} {xs ys : List Int} (a : Can w xs) (b : Can w ys) (hx : xs.length ≤ 1000) (hy : ys.length ≤ 1000) : FnN g (n + 1) 6 [lV xs, lV ys] (.int (sgn (val w xs) (val w ys))) := by
  refine FnN_of (names := ["a", "b"]) (by decide) rfl (by decide) (by decide +kernel) (by intro pm code doc vals h; obtain ⟨v1, v2, rfl⟩ := len2 h; rfl) rfl rfl rfl (by decide +kernel) (Xs.ex (P := fun _ => True) ?_) .ret
  conv in (dAt 6).body => whnf
  conv in (dAt 6).scope.names => whnf
  simp only [bindV, List.zip_cons_cons, List.map_cons, List.zip_nil_left, List.map_nil]
  by_cases hl : xs.length = ys.length
  · refine Xs_skip ?_ ?_
    · fail "M.if"
    refine Xs_forR (fun i r => i ≤ xs.length ∧ xs.drop (xs.length - i) = ys.drop (xs.length - i) ∧ r = ([("a", .fz (lV xs)), ("b", .fz (lV ys))] : Rh)) (EvIt_dn (m := xs.length) ?_ ?_ ?_ ?_) .name (fun i v r hv hp => ?_) ⟨Nat.zero_le _, by rw [Nat.sub_zero, List.drop_length, hl, List.drop_length], rfl⟩ (fun r hr => ?_)
    · fail "M.ev"
    · fail "M.ev"
    · fail "M.ev"
    · omega
    · obtain ⟨hi, rfl⟩ := dnV_get hv
      obtain ⟨_, he, rfl⟩ := hp
      refine ⟨_, .name (Sto.new (by fail "M.new")) rfl, ?_⟩
      have e1 : xs.length - 1 - i + 1 = xs.length - i := by omega
      generalize hp : xs.length - 1 - i = p at *
      have ep : ((p : Nat) : Int).toNat = p := Int.toNat_natCast p
      by_cases q : xs.getD p 0 = ys.getD p 0
      · left
        refine Xs_skip ?_ (Xs_nil ⟨_, List.sublist_cons_self _ _, by omega, ?_, rfl⟩)
        · fail "M.if"
          rw [ep, q]; simp
        · have e2 : xs.length - (i + 1) = p := by omega
          rw [e2, drop_cons (by omega), drop_cons (xs := ys) (by omega), q, e1, he]
      · right
        refine Xs_ifRet ?_ ?_
        · fail "M.if"
          simp only [ep, bne_iff_ne, ne_eq]; exact q
        · by_cases q2 : xs.getD p 0 < ys.getD p 0
          · rw [sgn_lt (cmp_at a.d b.d (p := p) (by omega) (by omega) (by rw [e1]; exact he) q2)]
            refine Xs_return (Ev_ifT ?_ (Ev_neg Ev_int))
            fail "M.if"
            simp only [ep, decide_eq_true_eq]; exact q2
          · rw [sgn_gt (cmp_at b.d a.d (p := p) (by omega) (by omega) (by rw [e1]; exact he.symm) (by omega))]
            refine Xs_return (Ev_ifF ?_ Ev_int)
            fail "M.if"
            simp only [ep, decide_eq_false_iff_not]; exact q2
    · rw [dnV_len] at hr
      obtain ⟨_, he, rfl⟩ := hr
      rw [Nat.sub_self, List.drop_zero, List.drop_zero] at he
      rw [he, sgn_eq rfl]
      refine Xs_return Ev_int
  · refine Xs_ifRet ?_ ?_
    · fail "M.if"
    · by_cases q : xs.length < ys.length
      · rw [sgn_lt (cmp_len a.d b q)]
        refine Xs_return (Ev_ifT ?_ (Ev_neg Ev_int))
        fail "M.if"
      · rw [sgn_gt (cmp_len b.d a (by omega))]
        refine Xs_return (Ev_ifF ?_ Ev_int)
        fail "M.if"
end
section
variable {g : Gl} {n : Nat}

theorem add_tail {w : Nat} (hw : 1 ≤ w ∧ w ≤ 9) {xs ys : List Int} (a : Can w xs) (b : Can w ys) (hl : ys.length ≤ xs.length) (hx : xs.length ≤ 1000) {s : Nat} (hs : val w xs + val w ys = s) :
    Xs g n (dAt 7).scope.names ([("a", .fz (lV xs)), ("b", .fz (lV ys)), ("w", .fz (.int (w : Nat)))] : Rh) ((dAt 7).body.drop 1) (.ret (.fz (nV w s))) fun _ => True := by
  conv in (dAt 7).body.drop 1 => whnf
  conv in (dAt 7).scope.names => whnf
  refine' Xs_cons (Ex_tup3 (b1 := .own (([] : List Int).map V.int)) (b2 := .fz (.int 0)) (b3 := .fz (.int (2 ^ w - 1))) ?e1 ?e2 ?e3 ?s3 ?s2 ?s1) ?_
  case e1 => exact EvO.ev (EvO_list EvF_nil)
  case e2 => fail "M.ev"
  case e3 =>
    refine' Ev.ofInt ?h ?e
    case' h => fail "M.ev"
    case e => exact one_shl
    · omega
    · have : Builtin.Int.intBits 1 = 1 := by decide
      rw [this]; omega
  case s3 => fail "M.sto"
  case s2 => fail "M.sto"
  case s1 => fail "M.sto"
  have B2 := two_w hw.1
  refine Xs_for (fun i r => i ≤ ys.length ∧ ∃ found carry, r = ([("found", .own ((found : List Int).map V.int)), ("carry", .fz (.int carry)), ("mask", .fz (.int (2 ^ w - 1))), ("a", .fz (lV xs)), ("b", .fz (lV ys)), ("w", .fz (.int (w : Nat)))] : Rh) ∧ found.length = i ∧ Dig w found ∧ 0 ≤ carry ∧ carry ≤ 1 ∧ val w found + (2 ^ w) ^ i * carry = val w (xs.take i) + val w (ys.take i))
    (EvIt_upTo (m := ys.length) ?_ ?_) .name (fun i v r hv hp => ?_) ⟨Nat.zero_le _, [], 0, rfl, rfl, Dig.nil, Int.le_refl _, by decide, by simp [val]⟩ (fun r hr => ?_)
  · fail "M.ev"
  · omega
  · obtain ⟨hi, rfl⟩ := rngV_get hv
    obtain ⟨_, found, carry, rfl, h1, h2, h3, h4, h5⟩ := hp
    rw [Nat.zero_add] at *
    refine ⟨_, .name (Sto.new (by fail "M.new")) rfl, ?_⟩
    have ei : ((i : Nat) : Int).toNat = i := Int.toNat_natCast i
    have dx := a.d.get (get_of (xs := xs) (i := i) (by omega))
    have dy := b.d.get (get_of (xs := ys) (i := i) (by omega))
    fail "M.st"
    fail "M.st"
    fail "M.st"
    · omega
    rw [ei]
    have hc : 0 ≤ carry + (xs.getD i 0 + ys.getD i 0) := by omega
    have eq := carry_turn (w := w) (c := carry) h1 hc (s := val w (xs.take (i + 1)) + val w (ys.take (i + 1))) (by
      rw [val_take_succ w (get_of (xs := xs) (i := i) (by omega)), val_take_succ w (get_of (xs := ys) (i := i) (by omega)), Int.mul_add, Int.mul_add]
      omega)
    rw [shr_eq hc, mask_eq hc]
    refine Xs_nil ⟨_, List.sublist_cons_self _ _, by omega, _, _, rfl, by simp [h1], h2.snoc (mod_lo w _).1 (mod_lo w _).2, div_lo hc, ?_, eq⟩
    have : (carry + (xs.getD i 0 + ys.getD i 0)) / 2 ^ w < 2 := div_lt (by omega)
    omega
  · rw [rngV_len, Nat.sub_zero] at hr
    obtain ⟨_, found, carry, rfl, h1, h2, h3, h4, h5⟩ := hr
    refine Xs_for (fun i r => ys.length + i ≤ xs.length ∧ ∃ found carry, r = ([("found", .own ((found : List Int).map V.int)), ("carry", .fz (.int carry)), ("mask", .fz (.int (2 ^ w - 1))), ("a", .fz (lV xs)), ("b", .fz (lV ys)), ("w", .fz (.int (w : Nat)))] : Rh) ∧ found.length = ys.length + i ∧ Dig w found ∧ 0 ≤ carry ∧ carry ≤ 1 ∧ val w found + (2 ^ w) ^ (ys.length + i) * carry = val w (xs.take (ys.length + i)) + val w ys)
      (EvIt_up (k := ys.length) (m := xs.length) ?_ ?_ ?_) .name (fun i v r hv hp => ?_) ⟨hl, found, carry, rfl, h1, h2, h3, h4, by rw [List.take_length] at h5; exact h5⟩ (fun r hr => ?_)
    · fail "M.ev"
    · fail "M.ev"
    · omega
    · obtain ⟨hi, rfl⟩ := rngV_get hv
      clear h1 h2 h3 h4 h5 found carry
      obtain ⟨_, found, carry, rfl, h1, h2, h3, h4, h5⟩ := hp
      refine ⟨_, .name (Sto.new (by fail "M.new")) rfl, ?_⟩
      generalize hj : ys.length + i = j at *
      have ei : ((j : Nat) : Int).toNat = j := Int.toNat_natCast j
      have dx := a.d.get (get_of (xs := xs) (i := j) (by omega))
      fail "M.st"
      fail "M.st"
      fail "M.st"
      · omega
      rw [ei]
      have hc : 0 ≤ carry + xs.getD j 0 := by omega
      have eq := carry_turn (w := w) (c := carry) h1 hc (s := val w (xs.take (j + 1)) + val w ys) (by
        rw [val_take_succ w (get_of (xs := xs) (i := j) (by omega)), Int.mul_add]
        omega)
      rw [shr_eq hc, mask_eq hc]
      have e2 : ys.length + (i + 1) = j + 1 := by omega
      refine Xs_nil ⟨_, List.sublist_cons_self _ _, by omega, _, _, rfl, by simp [h1, e2], h2.snoc (mod_lo w _).1 (mod_lo w _).2, div_lo hc, ?_, by rw [e2]; exact eq⟩
      have : (carry + xs.getD j 0) / 2 ^ w < 2 := div_lt (by omega)
      omega
    · clear h1 h2 h3 h4 h5 found carry
      rw [rngV_len] at hr
      have e2 : ys.length + (xs.length - ys.length) = xs.length := by omega
      rw [e2] at hr
      obtain ⟨_, found, carry, rfl, h1, h2, h3, h4, h5⟩ := hr
      rw [List.take_length, hs] at h5
      have hb := val_nonneg b.d
      rcases (by omega : carry = 0 ∨ carry = 1) with rfl | rfl
      · rw [Int.mul_zero, Int.add_zero] at h5
        rw [nV_eq (by omega) (can_of_ge a h2 h1 (by omega)) h5]
        refine Xs_skip ?_ (Xs_freeze List.mem_cons_self .here (Xs_return ?_))
        · fail "M.if"
        · fail "M.ev"
      · have e3 : val w (found ++ [1]) = s := by rw [val_more h1]; omega
        rw [nV_eq (by omega) (can_snoc h2 (by decide) (by omega)) e3]
        refine Xs_ifT ?_ ?_
        · fail "M.if"
        · fail "M.st"
          refine Xs_nil (Xs_freeze List.mem_cons_self .here (Xs_return ?_))
          fail "M.ev"

theorem add_c {w : Nat} (hw : 1 ≤ w ∧ w ≤ 9) {x y : Nat} (hx : x < 2 ^ 60) (hy : y < 2 ^ 60) : FnN g (n + 1) 7 [nV w x, nV w y, .int (w : Nat)] (nV w (x + y)) := by
  refine FnN_of (names := ["a", "b", "w"]) (by decide) rfl (by decide) (by decide +kernel) (by intro pm code doc vals h; obtain ⟨v1, v2, v3, rfl⟩ := len3 h; rfl) rfl rfl rfl (by decide +kernel) (Xs.ex (P := fun _ => True) ?_) .ret
  have lx := dig_len hw.1 hx
  have ly := dig_len hw.1 hy
  have vx := val_dig (w := w) (by omega) x
  have vy := val_dig (w := w) (by omega) y
  by_cases hl : (dig w x).length < (dig w y).length
  · have tl := add_tail (g := g) (n := n) hw (can_dig (by omega) y) (can_dig (by omega) x) (by omega) (by omega) (s := x + y) (by rw [vx, vy]; omega)
    conv at tl in (dAt 7).body.drop 1 => whnf
    conv at tl in (dAt 7).scope.names => whnf
    conv in (dAt 7).body => whnf
    conv in (dAt 7).scope.names => whnf
    simp only [bindV, List.zip_cons_cons, List.map_cons, List.zip_nil_left, List.map_nil]
    refine Xs_ifT ?_ ?_
    · fail "M.if"
    · refine' Xs_cons (Ex_tup2 (b1 := .fz (nV w y)) (b2 := .fz (nV w x)) ?e1 ?e2 ?s2 ?s1) (Xs_nil tl)
      case e1 => fail "M.ev"
      case e2 => fail "M.ev"
      case s2 => fail "M.sto"
      case s1 => fail "M.sto"
  · have tl := add_tail (g := g) (n := n) hw (can_dig (by omega) x) (can_dig (by omega) y) (by omega) (by omega) (s := x + y) (by rw [vx, vy]; omega)
    conv at tl in (dAt 7).body.drop 1 => whnf
    conv at tl in (dAt 7).scope.names => whnf
    conv in (dAt 7).body => whnf
    conv in (dAt 7).scope.names => whnf
    simp only [bindV, List.zip_cons_cons, List.map_cons, List.zip_nil_left, List.map_nil]
    refine Xs_skip ?_ tl
    fail "M.if"
end
section
variable {g : Gl} {n : Nat}

theorem sub_c {w : Nat} (hw : 1 ≤ w ∧ w ≤ 9) {x y : Nat} (hx : x < 2 ^ 60) (hy : y ≤ x) : FnN g (n + 2) 8 [nV w x, nV w y, .int (w : Nat)] (nV w (x - y)) := by
  refine FnN_of (names := ["a", "b", "w"]) (by decide) rfl (by decide) (by decide +kernel) (by intro pm code doc vals h; obtain ⟨v1, v2, v3, rfl⟩ := len3 h; rfl) rfl rfl rfl (by decide +kernel) (Xs.ex (P := fun _ => True) ?_) .ret
  have lx : (dig w x).length ≤ 60 := dig_len hw.1 hx
  have ly : (dig w y).length ≤ 60 := dig_len hw.1 (by omega)
  have vx := val_dig (w := w) (by omega) x
  have vy := val_dig (w := w) (by omega) y
  have cx := can_dig (w := w) (by omega) x
  have cy := can_dig (w := w) (by omega) y
  conv in (dAt 8).body => whnf
  conv in (dAt 8).scope.names => whnf
  simp only [bindV, List.zip_cons_cons, List.map_cons, List.zip_nil_left, List.map_nil]
  unfold nV
  generalize dig w x = xs at *
  generalize dig w y = ys at *
  have hx1 : xs.length ≤ 1000 := by omega
  have hy1 : ys.length ≤ 1000 := by omega
  have B2 := two_w hw.1
  refine Xs_skip ((Tr_cmp (Ev_callN (k := 6) (EvF_cons ?_ (EvF_cons ?_ EvF_nil)) (compare_c cx cy hx1 hy1)) Ev_int (VCmp.int cmp_lt)).of ?_) ?_
  · fail "M.ev"
  · fail "M.ev"
  · rw [vx, vy]
    unfold sgn
    rw [if_neg (by omega)]
    split <;> rfl
  refine' Xs_cons (Ex_tup3 (b1 := .own (([] : List Int).map V.int)) (b2 := .fz (.int 0)) (b3 := .fz (.int (2 ^ w))) ?e1 ?e2 ?e3 ?s3 ?s2 ?s1) ?_
  case e1 => exact EvO.ev (EvO_list EvF_nil)
  case e2 => fail "M.ev"
  case e3 =>
    refine' Ev.ofInt ?h ?e
    case' h => fail "M.ev"
    case e => rw [Int.toNat_natCast, Int.one_mul]
    · omega
    · have : Builtin.Int.intBits 1 = 1 := by decide
      rw [this]; omega
  case s3 => fail "M.sto"
  case s2 => fail "M.sto"
  case s1 => fail "M.sto"
  refine Xs_for (fun i r => i ≤ xs.length ∧ ∃ found borrow, r = ([("found", .own ((found : List Int).map V.int)), ("borrow", .fz (.int borrow)), ("base", .fz (.int (2 ^ w))), ("a", .fz (lV xs)), ("b", .fz (lV ys)), ("w", .fz (.int (w : Nat)))] : Rh) ∧ found.length = i ∧ Dig w found ∧ 0 ≤ borrow ∧ borrow ≤ 1 ∧ val w found - (2 ^ w) ^ i * borrow = val w (xs.take i) - val w (ys.take i))
    (EvIt_upTo (m := xs.length) ?_ ?_) .name (fun i v r hv hp => ?_) ⟨Nat.zero_le _, [], 0, rfl, rfl, Dig.nil, Int.le_refl _, by decide, by simp [val]⟩ (fun r hr => ?_)
  · fail "M.ev"
  · omega
  · obtain ⟨hi, rfl⟩ := rngV_get hv
    obtain ⟨_, found, borrow, rfl, h1, h2, h3, h4, h5⟩ := hp
    rw [Nat.zero_add] at *
    have hi : i < xs.length := hi
    refine ⟨_, .name (Sto.new (by fail "M.new")) rfl, ?_⟩
    have ei : ((i : Nat) : Int).toNat = i := Int.toNat_natCast i
    have dx := cx.d.getD i
    have dy := cy.d.getD i
    have dd : ∀ l : Int, l = xs.getD i 0 - borrow - ys.getD i 0 → 0 ≤ (if l < 0 then l + 2 ^ w else l) ∧ (if l < 0 then l + 2 ^ w else l) < 2 ^ w ∧ 0 ≤ (if l < 0 then (1 : Int) else 0) ∧ (if l < 0 then (1 : Int) else 0) ≤ 1 ∧ l = (if l < 0 then l + 2 ^ w else l) - 2 ^ w * (if l < 0 then 1 else 0) := by
      intro l e
      clear h5
      split <;> omega
    refine' Xs_assign (b := .fz (.int (xs.getD i 0 - borrow - ys.getD i 0))) ?h ?hs ?_
    case h =>
      refine' Ev.ofInt (Ev_binop ?a1 (Ev.ofInt (d := ys.getD i 0) ?a2 ?a4) op_sub) ?a3
      case' a1 => fail "M.ev"
      case' a2 => fail "M.ev"
      case' a4 =>
        rw [ei]
        split
        · rfl
        · rename_i q; exact (getD_over q).symm
      case' a3 => rw [ei]
    case hs => fail "M.sto"
    obtain ⟨d1, d2, d3, d4, d5⟩ := dd _ rfl
    have eq := borrow_turn (w := w) h1 h5 d5
    fail "M.st"
    fail "M.st"
    refine Xs_nil ⟨_, (List.sublist_cons_self _ _).trans (List.sublist_cons_self _ _), hi, _, _, rfl, by simp [h1], h2.snoc d1 d2, d3, d4, ?_⟩
    rw [eq, val_take_getD, val_take_getD w ys]
    omega
  · rw [rngV_len, Nat.sub_zero] at hr
    obtain ⟨_, found, borrow, rfl, h1, h2, h3, h4, h5⟩ := hr
    rw [List.take_length, List.take_of_length_le (l := ys) (Nat.le_of_not_lt fun q => by have := cmp_len cx.d cy q; omega)] at h5
    have hv := val_lt h2
    rw [h1] at hv
    have h6 : borrow = 0 := by
      rcases (by omega : borrow = 0 ∨ borrow = 1) with q | q
      · exact q
      · rw [q] at h5; omega
    rw [h6] at h5
    have h7 : val w found = ((x - y : Nat) : Int) := by omega
    rw [← nend_dig (by omega) h2 h7]
    refine Xs_freeze List.mem_cons_self .here (Xs_return (Ev_callN (k := 4) (EvF_cons ?_ EvF_nil) (normal_c (n := n) (by omega))))
    fail "M.ev"
end
section
variable {g : Gl} {n : Nat}

theorem mul_c {w : Nat} (hw : 1 ≤ w ∧ w ≤ 9) {x y : Nat} (hx : x < 2 ^ 60) (hy : y < 2 ^ 60) : FnN g (n + 2) 38 [nV w x, nV w y, .int (w : Nat)] (nV w (x * y)) := by
  refine FnN_of (names := ["a", "b", "w"]) (by decide) rfl (by decide) (by decide +kernel) (by intro pm code doc vals h; obtain ⟨v1, v2, v3, rfl⟩ := len3 h; rfl) rfl rfl rfl (by decide +kernel) (Xs.ex (P := fun _ => True) ?_) .ret
  have lx : (dig w x).length ≤ 60 := dig_len hw.1 hx
  have ly : (dig w y).length ≤ 60 := dig_len hw.1 hy
  have vx := val_dig (w := w) (by omega) x
  have vy := val_dig (w := w) (by omega) y
  have cx := can_dig (w := w) (by omega) x
  have cy := can_dig (w := w) (by omega) y
  conv in (dAt 38).body => whnf
  conv in (dAt 38).scope.names => whnf
  simp only [bindV, List.zip_cons_cons, List.map_cons, List.zip_nil_left, List.map_nil]
  unfold nV
  generalize dig w x = xs at *
  generalize dig w y = ys at *
  have B2 := two_w hw.1
  have B9 := two_9 hw.2
  refine' Xs_cons (Ex_tup2 (b1 := .own ((List.replicate (xs.length + ys.length) (0 : Int)).map V.int)) (b2 := .fz (.int (2 ^ w - 1))) ?e1 ?e2 ?s2 ?s1) ?_
  case e1 =>
    refine' ((EvO_rep Ev_int ?h2 ?h0 ?h3).of ?q).ev
    case' h2 => fail "M.ev"
    case h0 => omega
    case h3 => omega
    case q => rw [List.map_replicate]; congr 1
  case e2 =>
    refine' Ev.ofInt ?h ?e
    case' h => fail "M.ev"
    case e => exact one_shl
    · omega
    · have : Builtin.Int.intBits 1 = 1 := by decide
      rw [this]; omega
  case s2 => fail "M.sto"
  case s1 => fail "M.sto"
  refine Xs_for (fun i r => i ≤ xs.length ∧ ∃ found, r = ([("found", .own ((found : List Int).map V.int)), ("mask", .fz (.int (2 ^ w - 1))), ("a", .fz (lV xs)), ("b", .fz (lV ys)), ("w", .fz (.int (w : Nat)))] : Rh) ∧ found.length = xs.length + ys.length ∧ Dig w found ∧ (∀ p, i + ys.length ≤ p → found.getD p 0 = 0) ∧ val w found = val w (xs.take i) * val w ys)
    (EvIt_enum (xs := xs.map V.int) ?_) .pair (fun i v r hv hp => ?_) ⟨Nat.zero_le _, _, rfl, List.length_replicate, zeros_dig w _, fun p _ => zeros_getD _ p, by rw [zeros_val]; simp [val]⟩ (fun r hr => ?_)
  · fail "M.ev"
  · obtain ⟨hi, rfl⟩ := enum_get hv
    obtain ⟨_, found, rfl, h1, h2, h3, h4⟩ := hp
    refine ⟨_, .pair (Sto.new (by fail "M.new")) (Sto.new (by fail "M.new")) rfl rfl, ?_⟩
    have dx := cx.d.getD i
    have tk := val_take_getD w xs i
    generalize xs.getD i 0 = x0 at *
    fail "M.st"
    refine Xs_for (fun j r => j ≤ ys.length ∧ ∃ fd carry, r = ([("carry", .fz (.int carry)), ("limb", .fz (.int x0)), ("at", .fz (.int (i : Nat))), ("found", .own ((fd : List Int).map V.int)), ("mask", .fz (.int (2 ^ w - 1))), ("a", .fz (lV xs)), ("b", .fz (lV ys)), ("w", .fz (.int (w : Nat)))] : Rh) ∧ fd.length = xs.length + ys.length ∧ Dig w fd ∧ (∀ p, i + ys.length ≤ p → fd.getD p 0 = 0) ∧ (0 ≤ carry ∧ carry < 2 ^ w) ∧
        val w fd + (2 ^ w) ^ (i + j) * carry = val w found + (2 ^ w) ^ i * (x0 * val w (ys.take j)))
      (EvIt_enum (xs := ys.map V.int) ?_) .pair (fun j v r hv hp => ?_) ⟨Nat.zero_le _, found, 0, rfl, h1, h2, h3, by omega, by simp [val]⟩ (fun r hr => ?_)
    · fail "M.ev"
    · obtain ⟨hj, rfl⟩ := enum_get hv
      obtain ⟨_, fd, carry, rfl, g1, g2, g3, g4, g5⟩ := hp
      refine ⟨_, .pair (Sto.new (by fail "M.new")) (Sto.new (by fail "M.new")) rfl rfl, ?_⟩
      have dy := cy.d.getD j
      have tk2 := val_take_getD w ys j
      generalize ys.getD j 0 = y0 at *
      have hp : i + j < fd.length := by omega
      have eij : ((i : Int) + (j : Int)).toNat = i + j := by omega
      have hmo : IntMulOk x0 y0 := mulok ⟨dx.1, by omega⟩
      obtain ⟨m1, m2, m3, m4, m5⟩ := mul_turn hp g2 dx dy g4 g5
      have side : 0 ≤ (i : Int) + (j : Int) ∧ (i : Int) + (j : Int) < (fd.length : Nat) ∧ fd.length < 2 ^ 40 := by omega
      have hc0 := g4.1
      fail "M.st"
      rw [eij]
      fail "M.st"
      fail "M.st"
      · omega
      rw [eij, shr_eq m1, mask_eq m1]
      refine Xs_nil ⟨_, drop2, hj, _, _, rfl, by rw [List.length_set]; exact g1, m4, fun p hp => ?_, ⟨m2, m3⟩, ?_⟩
      · rw [getD_set_ne (by omega)]; exact g3 p hp
      · rw [← Nat.add_assoc, m5, tk2, Int.mul_add x0, Int.mul_add, Int.pow_add, Int.mul_assoc ((2 ^ w) ^ i), Int.mul_left_comm x0 ((2 ^ w) ^ j), Int.add_assoc]
    · rw [enum_len] at hr
      obtain ⟨_, fd, carry, rfl, g1, g2, g3, g4, g5⟩ := hr
      rw [List.take_length] at g5
      have hp : i + ys.length < fd.length := by omega
      have eij : ((i : Int) + (ys.length : Int)).toNat = i + ys.length := by omega
      have side : 0 ≤ (i : Int) + (ys.length : Int) ∧ (i : Int) + (ys.length : Int) < (fd.length : Nat) ∧ fd.length < 2 ^ 40 := by omega
      fail "M.st"
      rw [eij]
      refine Xs_nil ⟨_, drop3, hi, _, rfl, by rw [List.length_set]; exact g1, g2.set _ g4.1 g4.2, fun p hp => ?_, ?_⟩
      · rw [getD_set_ne (by omega)]; exact g3 p (by omega)
      · rw [val_set w _ _ _ hp, g3 _ (Nat.le_refl _), Int.sub_zero, g5, tk, h4, Int.add_mul, Int.mul_assoc]
  · rw [enum_len] at hr
    obtain ⟨_, found, rfl, h1, h2, h3, h4⟩ := hr
    rw [List.take_length, vx, vy] at h4
    rw [← nend_dig (by omega) h2 (n := x * y) (by rw [h4]; norm_cast)]
    refine Xs_freeze List.mem_cons_self .here (Xs_return (Ev_callN (k := 4) (EvF_cons ?_ EvF_nil) (normal_c (n := n) (by omega))))
    fail "M.ev"
end
section
variable {g : Gl} {n : Nat}

theorem signed_c {w k : Nat} {b : Bool} (hw : 1 ≤ w) (hk : k < 2 ^ 60 ∨ (dig w k).length ≤ 1000) : FnN g (n + 1) 22 [.bool b, nV w k] (.tuple [.bool (b && decide (0 < k)), nV w k]) := by
  refine FnN_of (names := ["is_below", "nat"]) (by decide) rfl (by decide) (by decide +kernel) (by intro pm code doc vals h; obtain ⟨v1, v2, rfl⟩ := len2 h; rfl) rfl rfl rfl (by decide +kernel) (Xs.ex (P := fun _ => True) ?_) .ret
  conv in (dAt 22).body => whnf
  conv in (dAt 22).scope.names => whnf
  simp only [bindV, List.zip_cons_cons, List.map_cons, List.zip_nil_left, List.map_nil]
  have l1 : (dig w k).length ≤ 1000 := by
    rcases hk with h | h
    · have := dig_len hw h; omega
    · exact h
  have l2 := dig_nil_iff (k := k) hw
  refine' Xs_return (Ev_tuple (EvF_cons (Ev_and ?aq1 (fun _ => Ev.of ?bq1 ?cq1)) (EvF_cons ?dq1 EvF_nil)))
  case' aq1 => fail "M.ev"
  case' bq1 => fail "M.ev"
  case' dq1 => fail "M.ev"
  case cq1 =>
    congr 1
    rw [Bool.eq_iff_iff]
    simp only [decide_eq_true_eq]
    omega
theorem s_neg_c {w : Nat} {i : Int} (hw : 1 ≤ w) (hi : i.natAbs < 2 ^ 60) : FnN g (n + 2) 23 [sV w i] (sV w (-i)) := by
  refine FnN_of (names := ["x"]) (by decide) rfl (by decide) (by decide +kernel) (by intro pm code doc vals h; obtain ⟨v1, rfl⟩ := len1 h; rfl) rfl rfl rfl (by decide +kernel) (Xs.ex (P := fun _ => True) ?_) .ret
  conv in (dAt 23).body => whnf
  conv in (dAt 23).scope.names => whnf
  simp only [bindV, List.zip_cons_cons, List.map_cons, List.zip_nil_left, List.map_nil]
  refine' Xs_return (Ev.of (Ev_callN (k := 22) ?aq1 (signed_c (n := n) (b := !decide (i < 0)) (k := i.natAbs) hw (.inl hi))) (sV_mk (sg_neg i) (Int.natAbs_neg i).symm))
  case' aq1 => fail "M.evs"
theorem s_sign_c {w : Nat} {i : Int} (hw : 1 ≤ w) (hi : i.natAbs < 2 ^ 60) : FnN g (n + 1) 24 [sV w i] (.int (sgn i 0)) := by
  refine FnN_of (names := ["x"]) (by decide) rfl (by decide) (by decide +kernel) (by intro pm code doc vals h; obtain ⟨v1, rfl⟩ := len1 h; rfl) rfl rfl rfl (by decide +kernel) (Xs.ex (P := fun _ => True) ?_) .ret
  conv in (dAt 24).body => whnf
  conv in (dAt 24).scope.names => whnf
  simp only [bindV, List.zip_cons_cons, List.map_cons, List.zip_nil_left, List.map_nil]
  have l1 := dig_len hw hi
  have l2 := dig_nil_iff (k := i.natAbs) hw
  by_cases h0 : i = 0
  · rw [sgn_eq h0]
    refine Xs_ifRet ?_ (Xs_return Ev_int)
    fail "M.if"
  · refine Xs_skip ?_ ?_
    · fail "M.if"
    by_cases h1 : i < 0
    · rw [sgn_lt h1]
      refine' Xs_return (Ev_ifT (Tr.of (Tr_bool ?aq1) (decide_eq_true h1)) (Ev_neg Ev_int))
      case' aq1 => fail "M.ev"
    · rw [sgn_gt (by omega)]
      refine' Xs_return (Ev_ifF (Tr.of (Tr_bool ?aq2) (decide_eq_false h1)) Ev_int)
      case' aq2 => fail "M.ev"
theorem s_add_c {w : Nat} {x y : Int} (hw : 1 ≤ w ∧ w ≤ 9) (hx : x.natAbs < 2 ^ 58) (hy : y.natAbs < 2 ^ 58) : FnN g (n + 3) 25 [sV w x, sV w y, .int (w : Nat)] (sV w (x + y)) := by
  refine FnN_of (names := ["x", "y", "w"]) (by decide) rfl (by decide) (by decide +kernel) (by intro pm code doc vals h; obtain ⟨v1, v2, v3, rfl⟩ := len3 h; rfl) rfl rfl rfl (by decide +kernel) (Xs.ex (P := fun _ => True) ?_) .ret
  conv in (dAt 25).body => whnf
  conv in (dAt 25).scope.names => whnf
  simp only [bindV, List.zip_cons_cons, List.map_cons, List.zip_nil_left, List.map_nil]
  have lx := dig_len (w := w) hw.1 (show x.natAbs < 2 ^ 60 by omega)
  have ly := dig_len (w := w) hw.1 (show y.natAbs < 2 ^ 60 by omega)
  have cx := can_dig (w := w) (by omega) x.natAbs
  have cy := can_dig (w := w) (by omega) y.natAbs
  have vx := val_dig (w := w) (by omega) x.natAbs
  have vy := val_dig (w := w) (by omega) y.natAbs
  by_cases hs : decide (x < 0) = decide (y < 0)
  · refine Xs_ifRet ?_ ?_
    · fail "M.if"
    · obtain ⟨s1, s2⟩ := sg_same hs
      refine' Xs_return (Ev.of (Ev_callN (k := 22) (EvF_cons ?aq1 (EvF_cons (Ev_callN (k := 7) ?bq1 (add_c (n := n + 1) hw (x := x.natAbs) (y := y.natAbs) (by omega) (by omega))) EvF_nil)) (signed_c (n := n + 1) (b := decide (x < 0)) hw.1 (.inl (by omega)))) (sV_mk s1 s2))
      case' aq1 => fail "M.ev"
      case' bq1 => fail "M.evs"
  · refine Xs_skip ?_ ?_
    · fail "M.if"
    by_cases hl : x.natAbs < y.natAbs
    · refine Xs_ifRet ?_ ?_
      · refine' Tr.of (Tr_cmp (Ev_callN (k := 6) ?aq2 (compare_c (n := n + 1) cx cy (by omega) (by omega))) Ev_int (VCmp.int cmp_lt)) ?eq2
        case' aq2 => fail "M.evs"
        case eq2 => rw [vx, vy, sgn_lt (by omega)]; rfl
      · obtain ⟨s1, s2⟩ := sg_diff hs (Nat.le_of_lt hl)
        refine' Xs_return (Ev.of (Ev_callN (k := 22) (EvF_cons ?aq3 (EvF_cons (Ev_callN (k := 8) ?bq3 (sub_c (n := n) hw (x := y.natAbs) (y := x.natAbs) (by omega) (by omega))) EvF_nil)) (signed_c (n := n + 1) (b := decide (y < 0)) hw.1 (.inl (by omega)))) (sV_mk s1 s2))
        case' aq3 => fail "M.ev"
        case' bq3 => fail "M.evs"
    · refine Xs_skip ?_ ?_
      · refine' Tr.of (Tr_cmp (Ev_callN (k := 6) ?aq4 (compare_c (n := n + 1) cx cy (by omega) (by omega))) Ev_int (VCmp.int cmp_lt)) ?eq4
        case' aq4 => fail "M.evs"
        case eq4 =>
          rw [vx, vy]
          unfold sgn
          rw [if_neg (by omega)]
          split <;> rfl
      · obtain ⟨s1, s2⟩ := sg_diff (x := y) (y := x) (fun q => hs q.symm) (by omega)
        rw [Int.add_comm] at s1 s2
        refine' Xs_return (Ev.of (Ev_callN (k := 22) (EvF_cons ?aq5 (EvF_cons (Ev_callN (k := 8) ?bq5 (sub_c (n := n) hw (x := x.natAbs) (y := y.natAbs) (by omega) (by omega))) EvF_nil)) (signed_c (n := n + 1) (b := decide (x < 0)) hw.1 (.inl (by omega)))) (sV_mk s1 s2))
        case' aq5 => fail "M.ev"
        case' bq5 => fail "M.evs"
theorem s_sub_c {w : Nat} {x y : Int} (hw : 1 ≤ w ∧ w ≤ 9) (hx : x.natAbs < 2 ^ 58) (hy : y.natAbs < 2 ^ 58) : FnN g (n + 4) 26 [sV w x, sV w y, .int (w : Nat)] (sV w (x - y)) := by
  refine FnN_of (names := ["x", "y", "w"]) (by decide) rfl (by decide) (by decide +kernel) (by intro pm code doc vals h; obtain ⟨v1, v2, v3, rfl⟩ := len3 h; rfl) rfl rfl rfl (by decide +kernel) (Xs.ex (P := fun _ => True) ?_) .ret
  conv in (dAt 26).body => whnf
  conv in (dAt 26).scope.names => whnf
  simp only [bindV, List.zip_cons_cons, List.map_cons, List.zip_nil_left, List.map_nil]
  have h : FnN g (n + 3) 25 [sV w x, sV w (-y), .int (w : Nat)] (sV w (x + -y)) := s_add_c (n := n) hw hx (by omega)
  rw [Int.sub_eq_add_neg]
  refine' Xs_return (Ev_callN (k := 25) (EvF_cons ?aq1 (EvF_cons (Ev_callN (k := 23) ?bq1 (s_neg_c (n := n + 1) hw.1 (by omega))) ?cq1)) h)
  case' aq1 => fail "M.ev"
  case' bq1 => fail "M.evs"
  case' cq1 => fail "M.evs"
end
section
variable {g : Gl} {n : Nat}

theorem div1_c {w : Nat} (hw : 1 ≤ w ∧ w ≤ 9) {x : Nat} (hx : x < 2 ^ 60) : FnN g (n + 2) 9 [nV w x, .int 1, .int (w : Nat)] (.tuple [nV w x, .int 0]) := by
  refine FnN_of (names := ["a", "limb", "w"]) (by decide) rfl (by decide) (by decide +kernel) (by intro pm code doc vals h; obtain ⟨v1, v2, v3, rfl⟩ := len3 h; rfl) rfl rfl rfl (by decide +kernel) (Xs.ex (P := fun _ => True) ?_) .ret
  have lx : (dig w x).length ≤ 60 := dig_len hw.1 hx
  have vx := val_dig (w := w) (by omega) x
  have cx := can_dig (w := w) (by omega) x
  conv in (dAt 9).body => whnf
  conv in (dAt 9).scope.names => whnf
  simp only [bindV, List.zip_cons_cons, List.map_cons, List.zip_nil_left, List.map_nil]
  unfold nV
  generalize hxs : dig w x = xs at *
  refine Xs_skip ?_ ?_
  · fail "M.if"
  refine' Xs_cons (Ex_tup2 (b1 := .own ((List.replicate xs.length (0 : Int)).map V.int)) (b2 := .fz (.int 0)) ?e1 ?e2 ?s2 ?s1) ?_
  case e1 =>
    refine' ((EvO_rep Ev_int ?h2 ?h0 ?h3).of ?q).ev
    case' h2 => fail "M.ev"
    case h0 => omega
    case h3 => omega
    case q => rw [List.map_replicate]; congr 1
  case e2 => fail "M.ev"
  case s2 => fail "M.sto"
  case s1 => fail "M.sto"
  refine Xs_for (fun i r => i ≤ xs.length ∧ ∃ found, r = ([("found", .own ((found : List Int).map V.int)), ("rest", .fz (.int 0)), ("a", .fz (lV xs)), ("limb", .fz (.int 1)), ("w", .fz (.int (w : Nat)))] : Rh) ∧ found.length = xs.length ∧ (∀ p, xs.length - i ≤ p → found.getD p 0 = xs.getD p 0))
    (EvIt_dn (m := xs.length) ?_ ?_ ?_ ?_) .name (fun i v r hv hp => ?_) ⟨Nat.zero_le _, _, rfl, List.length_replicate, fun p h => by rw [zeros_getD, getD_over (by omega)]⟩ (fun r hr => ?_)
  · fail "M.ev"
  · fail "M.ev"
  · fail "M.ev"
  · omega
  · obtain ⟨hi, rfl⟩ := dnV_get hv
    obtain ⟨_, found, rfl, h1, h2⟩ := hp
    refine ⟨_, .name (Sto.new (by fail "M.new")) rfl, ?_⟩
    have e1 : xs.length - (i + 1) = xs.length - 1 - i := by omega
    generalize hp : xs.length - 1 - i = p at *
    have ep : ((p : Nat) : Int).toNat = p := Int.toNat_natCast p
    have dx := cx.d.getD p
    refine' Xs_assign (b := .fz (.int (xs.getD p 0))) ?h6 ?hs6 ?_
    case' h6 =>
      refine' Ev.ofInt ?h7 ?e7
      case' h7 => fail "M.ev"
      case e7 => rw [Int.zero_mul, ep, bitOr_zero dx.1]
      · omega
      · have : Builtin.Int.intBits 0 = 0 := by decide
        rw [this]; omega
    case hs6 => fail "M.sto"
    refine' Xs_setItem (y := xs.getD p 0) (j := (p : Nat)) ?hx8 ?h8 ?h28 ?h08 ?hp8 ?_
    case hx8 => fail "M.mem"
    case' h8 =>
      refine' Ev.ofInt ?h9 ?e9
      case' h9 => fail "M.ev"
      case e9 => exact Int.fdiv_one _
      · decide
      · unfold Builtin.divisionGoesByPylong
        simp
        intro h; exact absurd h (by decide)
    case' h28 => fail "M.ev"
    case h08 => omega
    case' hp8 => fail "M.put"
    fail "M.st"
    · decide
    rw [ep, Int.fmod_one]
    refine Xs_nil ⟨_, drop1, by omega, _, rfl, by rw [List.length_set]; exact h1, fun q hq => ?_⟩
    by_cases e : p = q
    · subst e
      rw [List.getD_eq_getElem?_getD, List.getElem?_set_self (by omega)]; rfl
    · rw [getD_set_ne e]
      exact h2 q (by omega)
  · rw [dnV_len] at hr
    obtain ⟨_, found, rfl, h1, h2⟩ := hr
    have e : found = xs := by
      apply List.ext_getElem h1
      intro p hp hp'
      have := h2 p (by omega)
      rw [List.getD_eq_getElem?_getD, List.getElem?_eq_getElem hp, List.getD_eq_getElem?_getD, List.getElem?_eq_getElem hp'] at this
      exact this
    subst e
    have hn := nend_dig (by omega) cx.d vx
    refine' Xs_freeze List.mem_cons_self .here (Xs_return (Ev_tuple (EvF_cons (Ev.of (Ev_callN (k := 4) ?a9 (normal_c (n := n) (xs := found) (by omega))) ?b9) ?c9)))
    case' a9 => fail "M.evs"
    case b9 => rw [hn, hxs]
    case' c9 => fail "M.evs"
theorem small1_c {w : Nat} (hw : 1 ≤ w ∧ w ≤ 9) {x : Nat} (hx : x < 2 ^ 60) : FnN g (n + 3) 39 [nV w x, nV w 1, .int (w : Nat)] (.tuple [nV w x, nV w 0]) := by
  refine FnN_of (names := ["a", "b", "w"]) (by decide) rfl (by decide) (by decide +kernel) (by intro pm code doc vals h; obtain ⟨v1, v2, v3, rfl⟩ := len3 h; rfl) rfl rfl rfl (by decide +kernel) (Xs.ex (P := fun _ => True) ?_) .ret
  conv in (dAt 39).body => whnf
  conv in (dAt 39).scope.names => whnf
  simp only [bindV, List.zip_cons_cons, List.map_cons, List.zip_nil_left, List.map_nil]
  have e1 : nV w 1 = lV [1] := by rw [nV, dig_one hw.1]
  rw [e1]
  refine' Xs_unpack2 (Ev_callN (k := 9) (EvF_cons ?a1 (EvF_cons (Ev.ofInt (d := 1) (Ev_itemI (xs := [1]) ?a2 Ev_int ?a3) rfl) (EvF_cons ?a4 EvF_nil))) (div1_c (n := n) hw hx)) (.cons (Sto.new ?s1) rfl (.cons (Sto.new ?s2) rfl .nil)) ?_
  case' a1 => fail "M.ev"
  case' a2 => fail "M.ev"
  case' a3 => simp
  case' a4 => fail "M.ev"
  case' s1 => fail "M.new"
  case' s2 => fail "M.new"
  refine' Xs_return (Ev_tuple (EvF_cons ?b1 (EvF_cons (Ev_ifF ?b2 (EvO_list EvF_nil).fz) EvF_nil)))
  case' b1 => fail "M.ev"
  case' b2 => fail "M.if"
theorem school1_c {w : Nat} (hw : 1 ≤ w ∧ w ≤ 9) {x : Nat} (hx : x < 2 ^ 60) : FnN g (n + 4) 44 [nV w x, nV w 1, .int (w : Nat)] (.tuple [nV w x, nV w 0]) := by
  refine FnN_of (names := ["a", "b", "w"]) (by decide) rfl (by decide) (by decide +kernel) (by intro pm code doc vals h; obtain ⟨v1, v2, v3, rfl⟩ := len3 h; rfl) rfl rfl rfl (by decide +kernel) (Xs.ex (P := fun _ => True) ?_) .ret
  conv in (dAt 44).body => whnf
  conv in (dAt 44).scope.names => whnf
  simp only [bindV, List.zip_cons_cons, List.map_cons, List.zip_nil_left, List.map_nil]
  have l1 : (dig w 1).length = 1 := by rw [dig_one hw.1]; rfl
  have lx : (dig w x).length ≤ 60 := dig_len hw.1 hx
  have vx := val_dig (w := w) (by omega) x
  have v1 := val_dig (w := w) (by omega) 1
  have cx := can_dig (w := w) (by omega) x
  have c1 := can_dig (w := w) (by omega) 1
  refine Xs_skip ?_ ?_
  · fail "M.if"
  by_cases h0 : x = 0
  · subst h0
    refine' Xs_ifRet ((Tr_cmp (Ev_callN (k := 6) ?a1 (compare_c (n := n + 2) cx c1 (by omega) (by omega))) Ev_int (VCmp.int cmp_lt)).of ?e1) (Xs_return (Ev_tuple (EvF_cons (EvO_list EvF_nil).fz (EvF_cons (EvO_all (xs := (dig w 0).map V.int) ?b1 (by simp; omega)).fz EvF_nil))))
    case' a1 => fail "M.evs"
    case e1 => rw [vx, v1]; rfl
    case' b1 => fail "M.ev"
  · refine' Xs_skip ((Tr_cmp (Ev_callN (k := 6) ?a2 (compare_c (n := n + 2) cx c1 (by omega) (by omega))) Ev_int (VCmp.int cmp_lt)).of ?e2) ?_
    case' a2 => fail "M.evs"
    case e2 =>
      rw [vx, v1]
      unfold sgn
      rw [if_neg (by omega)]
      split <;> rfl
    refine' Xs_ifRet ?h3 (Xs_return (Ev_callN (k := 39) ?a3 (small1_c (n := n) hw hx)))
    case h3 => fail "M.if"
    case' a3 => fail "M.evs"
theorem s_mul_c {w : Nat} {x y : Int} {v : Value} (hw : 1 ≤ w ∧ w ≤ 9) (hx : x.natAbs < 2 ^ 28) (hy : y.natAbs < 2 ^ 28) (hv : IsDef g 38 v) : FnN g (n + 3) 27 [sV w x, sV w y, .int (w : Nat), .raw v] (sV w (x * y)) := by
  refine FnN_of (names := ["x", "y", "w", "mul"]) (by decide) rfl (by decide) (by decide +kernel) (by intro pm code doc vals h; obtain ⟨v1, v2, v3, v4, rfl⟩ := len4 h; rfl) rfl rfl rfl (by decide +kernel) (Xs.ex (P := fun _ => True) ?_) .ret
  conv in (dAt 27).body => whnf
  conv in (dAt 27).scope.names => whnf
  simp only [bindV, List.zip_cons_cons, List.map_cons, List.zip_nil_left, List.map_nil]
  obtain ⟨s1, s2⟩ := sg_mul x y
  have hm : x.natAbs * y.natAbs < 2 ^ 60 := by
    have := Nat.mul_le_mul (Nat.le_of_lt hx) (Nat.le_of_lt hy)
    omega
  refine' Xs_return (Ev.of (Ev_callN (k := 22) (EvF_cons ?a1 (EvF_cons (Ev_callDef ?b0 ?b1 hv (mul_c (n := n) hw (x := x.natAbs) (y := y.natAbs) (by omega) (by omega))) EvF_nil)) (signed_c (n := n + 1) (b := decide (x < 0) != decide (y < 0)) (k := x.natAbs * y.natAbs) hw.1 (.inl hm))) (sV_mk s1 s2))
  case' a1 => fail "M.ev"
  case' b0 => fail "M.mem"
  case' b1 => fail "M.evs"
theorem tdiv1_c {w : Nat} {x : Int} {v : Value} (hw : 1 ≤ w ∧ w ≤ 9) (hx : x.natAbs < 2 ^ 60) (hv : IsDef g 44 v) : FnN g (n + 5) 28 [sV w x, sV w 1, .int (w : Nat), .raw v] (.tuple [sV w x, sV w 0]) := by
  refine FnN_of (names := ["x", "y", "w", "divrem"]) (by decide) rfl (by decide) (by decide +kernel) (by intro pm code doc vals h; obtain ⟨v1, v2, v3, v4, rfl⟩ := len4 h; rfl) rfl rfl rfl (by decide +kernel) (Xs.ex (P := fun _ => True) ?_) .ret
  conv in (dAt 28).body => whnf
  conv in (dAt 28).scope.names => whnf
  simp only [bindV, List.zip_cons_cons, List.map_cons, List.zip_nil_left, List.map_nil]
  have l1 : (dig w (1 : Int).natAbs).length = 1 := by
    show (dig w 1).length = 1
    rw [dig_one hw.1]; rfl
  refine Xs_skip ?_ ?_
  · fail "M.if"
  refine' Xs_unpack2 (Ev_callDef (k := 44) ?a1 ?a2 hv (school1_c (n := n) (x := x.natAbs) hw hx)) (.cons (Sto.new ?s1) rfl (.cons (Sto.new ?s2) rfl .nil)) ?_
  case' a1 => fail "M.mem"
  case' a2 => fail "M.evs"
  case' s1 => fail "M.new"
  case' s2 => fail "M.new"
  refine' Xs_return (Ev_tuple (EvF_cons (Ev.of (Ev_callN (k := 22) ?b1 (signed_c (n := n + 3) (b := decide (x < 0) != decide ((1 : Int) < 0)) (k := x.natAbs) hw.1 (.inl hx))) (sV_mk (i := x) ?c1 rfl)) (EvF_cons (Ev.of (Ev_callN (k := 22) ?b2 (signed_c (n := n + 3) (w := w) (b := decide (x < 0)) (k := 0) hw.1 (.inl (by decide)))) (sV_mk (i := 0) ?c2 rfl)) EvF_nil)))
  case' b1 => fail "M.evs"
  case' b2 => fail "M.evs"
  case c1 =>
    rw [Bool.eq_iff_iff]
    simp only [Bool.and_eq_true, decide_eq_true_eq, bne_iff_ne, ne_eq, decide_eq_decide]
    omega
  case c2 => simp
theorem exact1_c {w : Nat} {x : Int} {v : Value} (hw : 1 ≤ w ∧ w ≤ 9) (hx : x.natAbs < 2 ^ 60) (hv : IsDef g 44 v) : FnN g (n + 6) 32 [sV w x, sV w 1, .int (w : Nat), .raw v] (sV w x) := by
  refine FnN_of (names := ["x", "y", "w", "divrem"]) (by decide) rfl (by decide) (by decide +kernel) (by intro pm code doc vals h; obtain ⟨v1, v2, v3, v4, rfl⟩ := len4 h; rfl) rfl rfl rfl (by decide +kernel) (Xs.ex (P := fun _ => True) ?_) .ret
  conv in (dAt 32).body => whnf
  conv in (dAt 32).scope.names => whnf
  simp only [bindV, List.zip_cons_cons, List.map_cons, List.zip_nil_left, List.map_nil]
  refine' Xs_unpack2 (Ev_callN (k := 28) ?a1 (tdiv1_c (n := n) hw hx hv)) (.cons (Sto.new ?s1) rfl (.cons (Sto.new ?s2) rfl .nil)) ?_
  case' a1 => fail "M.evs"
  case' s1 => fail "M.new"
  case' s2 => fail "M.new"
  refine' Xs_return ?a2
  case' a2 => fail "M.ev"
end
section
variable {g : Gl} {n : Nat}

abbrev ent (M : List (List Int)) (i j : Nat) : Int := (M.getD i []).getD j 0
theorem pivot_c {w : Nat} {M : List (List Int)} {top col : Nat} {res : Int} (hw : 1 ≤ w) (hl : M.length ≤ 100) (hr : ∀ i, i < M.length → col < (M.getD i []).length ∧ (M.getD i []).length ≤ 100) (hb : ∀ i, i < M.length → (ent M i col).natAbs < 2 ^ 60) (ht : top ≤ M.length)
    (h : (res = (top : Nat) ∧ top < M.length ∧ ent M top col ≠ 0) ∨ (res = -1 ∧ ∀ i, top ≤ i → i < M.length → ent M i col = 0)) : FnN g (n + 2) 33 [matV w M, .int (top : Nat), .int (col : Nat)] (.int res) := by
  refine FnN_of (names := ["rows", "top", "column"]) (by decide) rfl (by decide) (by decide +kernel) (by intro pm code doc vals h; obtain ⟨v1, v2, v3, rfl⟩ := len3 h; rfl) rfl rfl rfl (by decide +kernel) (Xs.ex (P := fun _ => True) ?_) .ret
  conv in (dAt 33).body => whnf
  conv in (dAt 33).scope.names => whnf
  simp only [bindV, List.zip_cons_cons, List.map_cons, List.zip_nil_left, List.map_nil]
  refine Xs_forR (fun i r => top + i ≤ M.length ∧ (ent M top col ≠ 0 → res = (top : Nat) → i = 0) ∧ r = ([("rows", .fz (matV w M)), ("top", .fz (.int (top : Nat))), ("column", .fz (.int (col : Nat)))] : Rh)) (EvIt_up (k := top) (m := M.length) ?_ ?_ ?_) .name (fun i v r hv hp => ?_) ⟨by omega, fun _ _ => rfl, rfl⟩ (fun r hr => ?_)
  · fail "M.ev"
  · fail "M.ev"
  · omega
  · obtain ⟨hi, rfl⟩ := rngV_get hv
    obtain ⟨_, h0, rfl⟩ := hp
    refine ⟨_, .name (Sto.new (by fail "M.new")) rfl, ?_⟩
    have hat : top + i < M.length := by omega
    obtain ⟨q1, q2⟩ := hr _ hat
    have q3 := hb _ hat
    by_cases hz : ent M (top + i) col = 0
    · left
      refine' Xs_skip (Tr.of (Tr_cmp (Ev_callN (k := 24) (EvF_cons (Ev_rowI (Ev_matI ?a1 ?a2 ⟨hat, by omega⟩) ?a3 ⟨q1, by omega⟩) EvF_nil) (s_sign_c (n := n) (w := w) hw q3)) Ev_int (VCmp.int cmp_ne)) ?e) (Xs_nil ⟨_, drop1, by omega, fun x y => ?_, rfl⟩)
      case' a1 => fail "M.ev"
      case' a2 => fail "M.ev"
      case' a3 => fail "M.ev"
      case e => rw [show (M.getD (top + i) []).getD col 0 = 0 from hz]; rfl
      have := h0 x y
      subst this
      exact absurd hz x
    · right
      refine' Xs_ifRet (Tr.of (Tr_cmp (Ev_callN (k := 24) (EvF_cons (Ev_rowI (Ev_matI ?a71 ?a72 ⟨hat, by omega⟩) ?a73 ⟨q1, by omega⟩) EvF_nil) (s_sign_c (n := n) (w := w) hw q3)) Ev_int (VCmp.int cmp_ne)) ?e7) ?_
      case' a71 => fail "M.ev"
      case' a72 => fail "M.ev"
      case' a73 => fail "M.ev"
      case e7 =>
        have hz' : ¬ (M.getD (top + i) []).getD col 0 = 0 := hz
        unfold sgn
        split
        · rfl
        · first | rfl | (rw [if_neg hz']; rfl)
      · rcases h with ⟨h1, h2, h3⟩ | ⟨h1, h2⟩
        · have := h0 h3 h1
          subst this
          rw [h1]
          simp only [Nat.add_zero]
          refine Xs_return ?_
          fail "M.ev"
        · exact absurd (h2 _ (by omega) hat) hz
  · rw [rngV_len] at hr
    obtain ⟨_, h0, rfl⟩ := hr
    rcases h with ⟨h1, h2, h3⟩ | ⟨h1, h2⟩
    · have := h0 h3 h1; omega
    · rw [h1]
      exact Xs_return (Ev_neg Ev_int)

def clr (c : Nat) (row head : List Int) : List Int := (List.range row.length).map fun i => row.getD i 0 * head.getD c 0 - row.getD c 0 * head.getD i 0
theorem clr_len {c : Nat} {row head : List Int} : (clr c row head).length = row.length := by simp [clr]
theorem clr_get {c i : Nat} {row head : List Int} (h : i < row.length) : (clr c row head).getD i 0 = row.getD i 0 * head.getD c 0 - row.getD c 0 * head.getD i 0 := by
  rw [List.getD_eq_getElem?_getD]
  unfold clr
  rw [List.getElem?_map, List.getElem?_range h]; rfl
theorem clr_take {c i : Nat} {row head : List Int} (h : i < row.length) : (clr c row head).take (i + 1) = (clr c row head).take i ++ [row.getD i 0 * head.getD c 0 - row.getD c 0 * head.getD i 0] := by
  rw [List.take_add_one, ← clr_get (c := c) (head := head) h, get_of (by rw [clr_len]; exact h)]; rfl
theorem prod_small {x y : Int} (hx : x.natAbs < 2 ^ 28) (hy : y.natAbs < 2 ^ 28) : (x * y).natAbs < 2 ^ 56 := by
  rw [Int.natAbs_mul]
  have := Nat.mul_le_mul (Nat.le_of_lt_succ (show x.natAbs < (2 ^ 28 - 1) + 1 by omega)) (Nat.le_of_lt_succ (show y.natAbs < (2 ^ 28 - 1) + 1 by omega))
  omega
theorem cleared_c {w c : Nat} {row head : List Int} {m d : Value} (hw : 1 ≤ w ∧ w ≤ 9) (hm : IsDef g 38 m) (hd : IsDef g 44 d) (hl : row.length ≤ 100) (he : head.length = row.length) (hc : c < row.length) (b1 : ∀ i, (row.getD i 0).natAbs < 2 ^ 28) (b2 : ∀ i, (head.getD i 0).natAbs < 2 ^ 28) :
    FnN g (n + 7) 34 [rowV w row, rowV w head, .int (c : Nat), sV w 1, .int (w : Nat), .raw m, .raw d] (rowV w (clr c row head)) := by
  refine FnN_of (names := ["row", "head", "column", "before", "w", "mul", "divrem"]) (by decide) rfl (by decide) (by decide +kernel) (by intro pm code doc vals h; obtain ⟨v1, v2, v3, v4, v5, v6, v7, rfl⟩ := len7 h; rfl) rfl rfl rfl (by decide +kernel) (Xs.ex (P := fun _ => True) ?_) .ret
  conv in (dAt 34).body => whnf
  conv in (dAt 34).scope.names => whnf
  simp only [bindV, List.zip_cons_cons, List.map_cons, List.zip_nil_left, List.map_nil]
  refine' Xs_cons (Ex_tup2 (b1 := .fz (sV w (head.getD c 0))) (b2 := .fz (sV w (row.getD c 0))) (Ev_rowI ?e1 ?e2 ⟨by omega, by omega⟩) (Ev_rowI ?e3 ?e4 ⟨by omega, by omega⟩) ?s2 ?s1) ?_
  case' e1 => fail "M.ev"
  case' e2 => fail "M.ev"
  case' e3 => fail "M.ev"
  case' e4 => fail "M.ev"
  case s2 => fail "M.sto"
  case s1 => fail "M.sto"
  refine' Xs_assign (b := .own []) (EvO_list EvF_nil).ev ?h6 ?_
  case h6 => fail "M.sto"
  refine Xs_for (fun i r => i ≤ row.length ∧ r = ([("found", .own (((clr c row head).take i).map (sV w))), ("pivot", .fz (sV w (head.getD c 0))), ("own", .fz (sV w (row.getD c 0))), ("row", .fz (rowV w row)), ("head", .fz (rowV w head)), ("column", .fz (.int (c : Nat))), ("before", .fz (sV w 1)), ("w", .fz (.int (w : Nat))), ("mul", .fz (.raw m)), ("divrem", .fz (.raw d))] : Rh))
    (EvIt_enum (xs := row.map (sV w)) ?_) .pair (fun i v r hv hp => ?_) ⟨Nat.zero_le _, rfl⟩ (fun r hr => ?_)
  · fail "M.ev"
  · obtain ⟨u, hu, rfl⟩ := enumV_get hv
    obtain ⟨_, rfl⟩ := hp
    have hi : i < row.length := by
      have := (List.getElem?_eq_some_iff.mp hu).1
      simpa using this
    rw [row_get hi] at hu
    cases hu
    refine ⟨_, .pair (Sto.new (by fail "M.new")) (Sto.new (by fail "M.new")) rfl rfl, ?_⟩
    have p1 := prod_small (b1 i) (b2 c)
    have p2 := prod_small (b1 c) (b2 i)
    refine' Xs_assign (b := .fz (sV w (row.getD i 0 * head.getD c 0 - row.getD c 0 * head.getD i 0))) (Ev_callN (k := 26) (EvF_cons (Ev_callN (k := 27) ?x1 ((s_mul_c (n := n) hw (b1 i) (b2 c) hm).less (by omega))) (EvF_cons (Ev_callN (k := 27) (EvF_cons ?x2 (EvF_cons (Ev_rowI ?x3 ?x4 ⟨by omega, by omega⟩) ?x5)) ((s_mul_c (n := n) hw (b1 c) (b2 i) hm).less (by omega))) ?x6)) ((s_sub_c (n := n) hw (by omega) (by omega)).less (by omega))) ?h7 ?_
    case' x1 => fail "M.evs"
    case' x2 => fail "M.ev"
    case' x3 => fail "M.ev"
    case' x4 => fail "M.ev"
    case' x5 => fail "M.evs"
    case' x6 => fail "M.evs"
    case h7 => fail "M.sto"
    refine' Xs_appendV ?y1 (Ev_callN (k := 32) ?y2 (exact1_c (n := n) (x := row.getD i 0 * head.getD c 0 - row.getD c 0 * head.getD i 0) hw (by omega) hd)) ?y3 ?y4 ?_
    case y1 => fail "M.mem"
    case' y2 => fail "M.evs"
    case y3 => fail "M.put"
    case y4 => rw [List.length_map, List.length_take]; omega
    refine Xs_nil ⟨_, drop3, hi, ?_⟩
    rw [clr_take hi, List.map_append]; rfl
  · rw [enumV_len, List.length_map] at hr
    obtain ⟨_, rfl⟩ := hr
    rw [List.take_of_length_le (by rw [clr_len]; exact Nat.le_refl _)]
    refine Xs_freeze List.mem_cons_self .here (Xs_return ?_)
    fail "M.ev"
end
section
variable {g : Gl} {n : Nat}

def stepTo (c j : Nat) (M : List (List Int)) : List (List Int) := M.mapIdx fun i row => if c < i ∧ i < c + 1 + j then clr c row (M.getD c []) else row
theorem stepTo_len {c j : Nat} {M : List (List Int)} : (stepTo c j M).length = M.length := by simp [stepTo]
theorem stepTo_get {c j i : Nat} {M : List (List Int)} (h : i < M.length) : (stepTo c j M).getD i [] = if c < i ∧ i < c + 1 + j then clr c (M.getD i []) (M.getD c []) else M.getD i [] := by
  rw [List.getD_eq_getElem?_getD]
  unfold stepTo
  rw [List.getElem?_mapIdx, List.getElem?_eq_getElem h]
  simp only [Option.map_some, Option.getD_some, List.getD_eq_getElem?_getD (l := M) (i := i), List.getElem?_eq_getElem h]
theorem stepTo_zero {c : Nat} {M : List (List Int)} : stepTo c 0 M = M := by
  unfold stepTo
  apply List.ext_getElem (by simp)
  intro i h1 h2
  rw [List.getElem_mapIdx, if_neg (by omega)]
theorem stepTo_at {c j i : Nat} {M : List (List Int)} (h : i < (stepTo c j M).length) (h' : i < M.length) : (stepTo c j M)[i] = if c < i ∧ i < c + 1 + j then clr c M[i] (M.getD c []) else M[i] := by
  have := stepTo_get (c := c) (j := j) h'
  rw [List.getD_eq_getElem?_getD, List.getElem?_eq_getElem h, List.getD_eq_getElem?_getD (l := M) (i := i), List.getElem?_eq_getElem h'] at this
  exact this
theorem stepTo_set {c j : Nat} {M : List (List Int)} (h : c + 1 + j < M.length) : (stepTo c j M).set (c + 1 + j) (clr c (M.getD (c + 1 + j) []) (M.getD c [])) = stepTo c (j + 1) M := by
  apply List.ext_getElem (by simp [stepTo])
  intro i h1 h2
  have hi : i < M.length := by rw [stepTo_len] at h2; exact h2
  rw [List.getElem_set, stepTo_at h2 hi]
  by_cases e : c + 1 + j = i
  · subst e
    rw [if_pos rfl, if_pos (by omega), List.getD_eq_getElem?_getD, List.getElem?_eq_getElem hi]; rfl
  · rw [if_neg e, stepTo_at (by rw [stepTo_len]; exact hi) hi]
    by_cases q : c < i ∧ i < c + 1 + j
    · rw [if_pos q, if_pos (by omega)]
    · rw [if_neg q, if_neg (by omega)]

def bef (Ms : Nat → List (List Int)) (c : Nat) : Int := if c = 0 then 1 else ent (Ms c) (c - 1) (c - 1)
structure Trace (N k : Nat) (Ms : Nat → List (List Int)) : Prop where
  big : N ≤ 50
  size : ∀ c, (Ms c).length = N ∧ ∀ i, i < N → ((Ms c).getD i []).length = N
  bound : ∀ c i j, (ent (Ms c) i j).natAbs < 2 ^ 28
  kle : k ≤ N
  step : ∀ c, c < k → Ms (c + 1) = stepTo c (N - (c + 1)) (Ms c)
  piv : ∀ c, c < k → ent (Ms c) c c ≠ 0
  stuck : ∀ c, k ≤ c → c < N → ∀ i, k ≤ i → i < N → ent (Ms k) i c = 0
  one : ∀ c, c < k → c + 1 < N → bef Ms c = 1

theorem range_ints (k : Nat) : ((List.range k).map fun i => ((i : Nat) : Int)) ++ [((k : Nat) : Int)] = (List.range (k + 1)).map fun i => ((i : Nat) : Int) := by
  rw [List.range_succ, List.map_append]; rfl

theorem steps_c {w N k : Nat} {Ms : Nat → List (List Int)} {m d : Value} (hw : 1 ≤ w ∧ w ≤ 9) (hm : IsDef g 38 m) (hd : IsDef g 44 d) (T : Trace N k Ms) :
    FnN g (n + 8) 35 [matV w (Ms 0), .int (N : Nat), .int (w : Nat), .raw m, .raw d] (.tuple [matV w (Ms k), lV ((List.range k).map fun i => ((i : Nat) : Int)), .bool false]) := by
  refine FnN_of (names := ["a", "columns", "w", "mul", "divrem"]) (by decide) rfl (by decide) (by decide +kernel) (by intro pm code doc vals h; obtain ⟨v1, v2, v3, v4, v5, rfl⟩ := len5 h; rfl) rfl rfl rfl (by decide +kernel) (Xs.ex (P := fun _ => True) ?_) .ret
  conv in (dAt 35).body => whnf
  conv in (dAt 35).scope.names => whnf
  simp only [bindV, List.zip_cons_cons, List.map_cons, List.zip_nil_left, List.map_nil]
  have uv : ∀ g : Gl, g.Ok → ∃ v, g.mg "UNIT" = some v ∧ Den g.base.get? (sV w 1) v := fun g ok => by
    obtain ⟨v, h1, h2⟩ := ok.unit
    refine ⟨v, h1, ?_⟩
    have e : sV w 1 = .tuple [.bool false, .list [.int 1]] := by
      show V.tuple [.bool false, .list ((dig w 1).map V.int)] = _
      rw [dig_one hw.1]; rfl
    rw [e]; exact h2
  obtain ⟨sz, szr⟩ := T.size 0
  have hN := T.big
  have hk := T.kle
  refine' Xs_cons (Ex_tupN (l := [("rows", .own ((Ms 0).map (rowV w))), ("places", .own (([] : List Int).map V.int)), ("is_odd", .fz (.bool false)), ("before", .fz (sV w 1))]) (ps := [_, _, _, _]) (hz := Nat.le_of_ble_eq_true rfl)
    (EvL_cons (EvO_comp1 (vs := (Ms 0).map (rowV w)) (EvIt_list ?a1) Sees.none (CompOk.of rfl rfl rfl rfl rfl rfl) .nil rfl ?a2 (fun i v y h1 h2 => ?a3)).ev (EvL_cons (EvO_list EvF_nil).ev (EvL_cons Ev_bool (EvL_cons (Ev_global uv) EvL_nil))))
    (.cons (.new ?n1) rfl (.cons (.new ?n2) rfl (.cons (.new ?n3) rfl (.cons (.new ?n4) rfl .nil))))) ?_
  case' a1 => fail "M.ev"
  case a2 => rw [List.length_map, sz]; omega
  case' a3 =>
    rw [h1] at h2; cases h2
    have hi := (List.getElem?_eq_some_iff.mp h1).1
    rw [List.length_map] at hi
    rw [mat_get hi] at h1
    cases h1
    refine' (EvO_all (xs := ((Ms 0).getD i []).map (sV w)) ?z1 ?z2).fz
    case' z1 => fail "M.ev"
    case z2 => rw [List.length_map, szr i (by omega)]; omega
  case n1 => fail "M.new"
  case n2 => fail "M.new"
  case n3 => fail "M.new"
  case n4 => fail "M.new"
  refine' Xs_for (fun c r => c ≤ N ∧ r = ([("before", .fz (sV w (bef Ms (min c k)))), ("is_odd", .fz (.bool false)), ("places", .own (((List.range (min c k)).map fun i => ((i : Nat) : Int)).map V.int)), ("rows", .own ((Ms (min c k)).map (rowV w))), ("a", .fz (matV w (Ms 0))), ("columns", .fz (.int (N : Nat))), ("w", .fz (.int (w : Nat))), ("mul", .fz (.raw m)), ("divrem", .fz (.raw d))] : Rh))
    (EvIt_upTo (m := N) ?b1 (by omega)) .name (fun c v r hv hp => ?_) ⟨Nat.zero_le _, by rw [Nat.zero_min]; rfl⟩ (fun r hr => ?_)
  case' b1 => fail "M.ev"
  · obtain ⟨hc, rfl⟩ := rngV_get hv
    obtain ⟨_, rfl⟩ := hp
    rw [Nat.zero_add] at *
    have hc : c < N := by omega
    refine ⟨_, .name (Sto.new (by fail "M.new")) rfl, ?_⟩
    obtain ⟨sm, smr⟩ := T.size (min c k)
    have bd := T.bound (min c k)
    have lenp : (((List.range (min c k)).map fun i => ((i : Nat) : Int)).map V.int).length = min c k := by simp
    refine' Xs_assign (b := .fz (.int ((min c k : Nat) : Int))) (Ev_lenOwn ?c1 lenp (by omega)) ?c2 ?_
    case c1 => fail "M.mem"
    case c2 => fail "M.sto"
    have pv : ∀ res : Int, ((res = ((min c k : Nat) : Int) ∧ min c k < (Ms (min c k)).length ∧ ent (Ms (min c k)) (min c k) c ≠ 0) ∨ (res = -1 ∧ ∀ i, min c k ≤ i → i < (Ms (min c k)).length → ent (Ms (min c k)) i c = 0)) → FnN g (n + 7) 33 [matV w (Ms (min c k)), .int ((min c k : Nat) : Int), .int (c : Nat)] (.int res) := fun res h =>
      (pivot_c (n := n) hw.1 (by omega) (fun i hi => by rw [smr i (by omega)]; omega) (fun i _ => by have := bd i c; omega) (by omega) h).less (by omega)
    by_cases hck : c < k
    · have em : min c k = c := by omega
      simp only [em] at sm smr bd lenp pv ⊢
      refine' Xs_assign (b := .fz (.int (c : Nat))) (Ev_callOwnN (k := 33) ?d1 ?d2 (pv _ (.inl ⟨rfl, by omega, T.piv c hck⟩)) free_int) ?d3 ?_
      case d1 => fail "M.mem"
      case' d2 => fail "M.evs"
      case d3 => fail "M.sto"
      refine' Xs_ifT ?d4 (Xs_skip ?d5 ?_)
      case' d4 => fail "M.if"
      case' d5 => fail "M.if"
      have em' : min (c + 1) k = c + 1 := by omega
      refine' Xs_for (fun j r => c + 1 + j ≤ N ∧ r = ([("spot", .fz (.int (c : Nat))), ("top", .fz (.int (c : Nat))), ("column", .fz (.int (c : Nat))), ("before", .fz (sV w (bef Ms c))), ("is_odd", .fz (.bool false)), ("places", .own (((List.range c).map fun i => ((i : Nat) : Int)).map V.int)), ("rows", .own ((stepTo c j (Ms c)).map (rowV w))), ("a", .fz (matV w (Ms 0))), ("columns", .fz (.int (N : Nat))), ("w", .fz (.int (w : Nat))), ("mul", .fz (.raw m)), ("divrem", .fz (.raw d))] : Rh))
        (EvIt_up (k := c + 1) (m := N) (Ev.ofInt (Ev_binop (a := ((c : Nat) : Int)) ?e1 Ev_int op_add) ?e5) (Ev_lenOwn ?e2 ?e3 (by omega)) ⟨by omega, by omega⟩) .name (fun j v r hv hp => ?_) ⟨hc, by rw [stepTo_zero]⟩ (fun r hr => ?_)
      case' e1 => fail "M.ev"
      case e2 => fail "M.mem"
      case e3 => rw [List.length_map, sm]
      case e5 => omega
      · obtain ⟨hj, rfl⟩ := rngV_get hv
        obtain ⟨_, rfl⟩ := hp
        refine ⟨_, .name (Sto.new (by fail "M.new")) rfl, ?_⟩
        have hat : c + 1 + j < (Ms c).length := by omega
        have ls : (stepTo c j (Ms c)).length = N := by rw [stepTo_len, sm]
        have g1 : (stepTo c j (Ms c)).getD (c + 1 + j) [] = (Ms c).getD (c + 1 + j) [] := by rw [stepTo_get hat, if_neg (by omega)]
        have g2 : (stepTo c j (Ms c)).getD c [] = (Ms c).getD c [] := by rw [stepTo_get (by omega), if_neg (by omega)]
        have ho := T.one c hck (by omega)
        have lr := smr (c + 1 + j) (by omega)
        have lh := smr c hc
        have cl := cleared_c (n := n) (w := w) (c := c) (row := (Ms c).getD (c + 1 + j) []) (head := (Ms c).getD c []) hw hm hd (by omega) (by omega) (by omega) (fun i => bd _ i) (fun i => bd _ i)
        rw [ho]
        rw [← g1, ← g2] at cl
        refine' Ex_setRow (w := w) (m := stepTo c j (Ms c)) (k := c + 1 + j) ?r1 (Ev_callN (k := 34) (EvF_cons (Ev_matOwn (m := stepTo c j (Ms c)) ?r2 ?r3 ⟨by omega, by omega⟩) (EvF_cons (Ev_matOwn (m := stepTo c j (Ms c)) ?r4 ?r5 ⟨by omega, by omega⟩) ?r6)) cl) ?r7 ⟨by omega, by omega⟩ ?r8 ?_
        case r1 => fail "M.mem"
        case r2 => fail "M.mem"
        case' r3 => fail "M.ev"
        case r4 => fail "M.mem"
        case' r5 => fail "M.ev"
        case' r6 => fail "M.evs"
        case' r7 => fail "M.ev"
        case r8 => fail "M.put"
        refine Xs_nil ⟨_, drop1, by omega, ?_⟩
        rw [g1, g2, stepTo_set hat]
      · rw [rngV_len] at hr
        obtain ⟨_, rfl⟩ := hr
        have es := T.step c hck
        rw [← es]
        obtain ⟨sm2, smr2⟩ := T.size (c + 1)
        have lh := smr2 c hc
        refine' Xs_assign (b := .fz (sV w (ent (Ms (c + 1)) c c))) (Ev_rowI (r := (Ms (c + 1)).getD c []) (Ev_matOwn (m := Ms (c + 1)) ?t1 ?t2 ⟨by omega, by omega⟩) ?t3 ⟨by omega, by omega⟩) ?t4 ?_
        case t1 => fail "M.mem"
        case' t2 => fail "M.ev"
        case' t3 => fail "M.ev"
        case t4 => fail "M.sto"
        refine' Xs_append ?u1 ?u2 ?u3 ?u4 ?_
        case u1 => fail "M.mem"
        case' u2 => fail "M.ev"
        case u3 => fail "M.put"
        case u4 => simp; omega
        refine Xs_nil (Xs_nil ⟨_, drop3, hc, ?_⟩)
        rw [em', range_ints]
        rfl
    · have em : min c k = k := by omega
      have em' : min (c + 1) k = k := by omega
      simp only [em] at sm smr bd lenp pv ⊢
      refine' Xs_assign (b := .fz (.int (-1))) (Ev_callOwnN (k := 33) ?f1 ?f2 (pv _ (.inr ⟨rfl, fun i h1 h2 => T.stuck c (by omega) hc i h1 (by omega)⟩)) free_int) ?f3 ?_
      case f1 => fail "M.mem"
      case' f2 => fail "M.evs"
      case f3 => fail "M.sto"
      refine' Xs_skip ?f4 (Xs_nil ⟨_, drop3, hc, by rw [em']⟩)
      case' f4 => fail "M.if"
  · rw [rngV_len, Nat.sub_zero] at hr
    obtain ⟨_, rfl⟩ := hr
    have em : min N k = k := by omega
    rw [em]
    refine' Xs_freeze (x := "places") ?g1 ?g2 (Xs_freeze (x := "rows") ?g3 ?g4 (Xs_return (Ev_tuple ?g5)))
    case g1 => fail "M.mem"
    case g2 => fail "M.put"
    case g3 => fail "M.mem"
    case g4 => fail "M.put"
    case' g5 => fail "M.evs"
end
section
variable {g : Gl} {n : Nat}

theorem det_c {w N k : Nat} {Ms : Nat → List (List Int)} {m d : Value} (hw : 1 ≤ w ∧ w ≤ 9) (hm : IsDef g 38 m) (hd : IsDef g 44 d) (T : Trace N k Ms) (h1 : 1 ≤ N) :
    FnN g (n + 9) 36 [matV w (Ms 0), .int (w : Nat), .raw m, .raw d] (sV w (if k < N then 0 else ent (Ms k) (N - 1) (N - 1))) := by
  refine FnN_of (names := ["a", "w", "mul", "divrem"]) (by decide) rfl (by decide) (by decide +kernel) (by intro pm code doc vals h; obtain ⟨v1, v2, v3, v4, rfl⟩ := len4 h; rfl) rfl rfl rfl (by decide +kernel) (Xs.ex (P := fun _ => True) ?_) .ret
  conv in (dAt 36).body => whnf
  conv in (dAt 36).scope.names => whnf
  simp only [bindV, List.zip_cons_cons, List.map_cons, List.zip_nil_left, List.map_nil]
  have nv : ∀ g : Gl, g.Ok → ∃ v, g.mg "NOUGHT" = some v ∧ Den g.base.get? (sV w 0) v := fun g ok => ok.nought
  obtain ⟨sz, szr⟩ := T.size 0
  obtain ⟨sk, skr⟩ := T.size k
  have hN := T.big
  have hk := T.kle
  have lA : ((Ms 0).map (rowV w)).length = N := by rw [List.length_map, sz]
  refine' Xs_skip (Tr.of (Tr_cmp (Ev_lenName ?a1 lA (by omega)) Ev_int (VCmp.int cmp_eq)) ?a2) ?_
  case a1 => fail "M.mem"
  case a2 => fail "M.bool"
  refine' Xs_unpack3 (Ev_callN (k := 35) (EvF_cons ?b1 (EvF_cons (Ev_lenName ?b2 lA (by omega)) ?b3)) (steps_c (n := n) hw hm hd T)) (.cons (.new ?b4) rfl (.cons (.new ?b5) rfl (.cons (.new ?b6) rfl .nil))) ?_
  case' b1 => fail "M.ev"
  case b2 => fail "M.mem"
  case' b3 => fail "M.evs"
  case b4 => fail "M.new"
  case b5 => fail "M.new"
  case b6 => fail "M.new"
  have lp : (((List.range k).map fun i => ((i : Nat) : Int)).map V.int).length = k := by simp
  by_cases hkn : k < N
  · rw [if_pos hkn]
    refine' Xs_ifRet (Tr.of (Tr_cmp (Ev_lenName (k := k) ?c1 lp (by omega)) (Ev_lenName ?c2 lA (by omega)) (VCmp.int cmp_lt)) ?c3) (Xs_return (Ev_global nv))
    case c1 => fail "M.mem"
    case c2 => fail "M.mem"
    case c3 => fail "M.bool"
  · rw [if_neg hkn]
    refine' Xs_skip (Tr.of (Tr_cmp (Ev_lenName (k := k) ?d1 lp (by omega)) (Ev_lenName ?d2 lA (by omega)) (VCmp.int cmp_lt)) ?d3) ?_
    case d1 => fail "M.mem"
    case d2 => fail "M.mem"
    case d3 => fail "M.bool"
    have lr := skr (N - 1) (by omega)
    refine' Xs_assign (b := .fz (sV w (ent (Ms k) (N - 1) (N - 1)))) ?e0 ?e6 ?_
    case' e0 =>
      refine' Ev_rowI (r := (Ms k).getD (N - 1) []) ?e7 (Ev.ofInt (Ev_binop (a := ((N : Nat) : Int)) (Ev_lenName ?e4 lA (by omega)) Ev_int op_sub) ?e5) ⟨by omega, by omega⟩
      case' e7 =>
        refine' Ev_itemNeg (k := -1) (xs := (Ms k).map (rowV w)) ?e1 (Ev_neg Ev_int) (by decide) ?e2 (by decide) ?e3
        case' e1 => fail "M.ev"
        case e2 => rw [List.length_map, sk]; omega
        case e3 =>
          rw [List.length_map, sk, show ((-1 : Int) + (N : Nat)).toNat = N - 1 by omega]
          exact mat_get (by omega)
      case e4 => fail "M.mem"
      case e5 => omega
    case e6 => fail "M.sto"
    refine' Xs_return (Ev_ifF (Tr_bool ?f1) ?f2)
    case' f1 => fail "M.ev"
    case' f2 => fail "M.ev"
end
section
variable {g : Gl} {n : Nat}

theorem limbs_c {w m : Nat} (hw : 1 ≤ w ∧ w ≤ 9) (hm : m < 2 ^ 60) : FnN g (n + 1) 47 [.int (m : Nat), .int (w : Nat)] (nV w m) := by
  refine FnN_of (names := ["number", "w"]) (by decide) rfl (by decide) (by decide +kernel) (by intro pm code doc vals h; obtain ⟨v1, v2, rfl⟩ := len2 h; rfl) rfl rfl rfl (by decide +kernel) (Xs.ex (P := fun _ => True) ?_) .ret
  conv in (dAt 47).body => whnf
  conv in (dAt 47).scope.names => whnf
  simp only [bindV, List.zip_cons_cons, List.map_cons, List.zip_nil_left, List.map_nil]
  have lm := dig_len hw.1 hm
  have p9 : 2 ^ w ≤ 2 ^ 9 := Nat.pow_le_pow_right (by decide) hw.2
  have p1 : 1 < 2 ^ w := Nat.one_lt_two_pow (by omega)
  have b2 : Builtin.Int.intBits 2 = 2 := by decide
  refine' Xs_assign (b := .own (([] : List Int).map V.int)) (EvO_list EvF_nil).ev ?a1 ?_
  case a1 => fail "M.sto"
  refine Xs_while (fun j r => ∃ found, r = ([("found", .own ((found : List Int).map V.int)), ("number", .fz (.int (j : Nat))), ("w", .fz (.int (w : Nat)))] : Rh) ∧ found ++ dig w j = dig w m) (fun r => r = ([("found", .own ((dig w m).map V.int)), ("number", .fz (.int 0)), ("w", .fz (.int (w : Nat)))] : Rh)) (fun j r h => ?_) m ⟨[], rfl, rfl⟩ (fun r h => ?_)
  · obtain ⟨found, rfl, he⟩ := h
    by_cases hj : j = 0
    · subst hj
      rw [dig_zero, List.append_nil] at he
      subst he
      refine .inl ⟨?_, rfl⟩
      fail "M.if"
    · have lt : j / 2 ^ w < j := Nat.div_lt_self (by omega) p1
      have lf : found.length ≤ 60 := by
        have := congrArg List.length he
        rw [List.length_append] at this; omega
      rw [dig_step hw.1 hj] at he
      refine .inr ⟨?_, ?_⟩
      · fail "M.if"
      refine' Xs_append (xs := found) (y := ((j % 2 ^ w : Nat) : Int)) ?b1 (Ev.ofInt (Ev_binop (a := ((j : Nat) : Int)) (b := ((2 ^ w : Nat) : Int)) ?b2 (Ev.ofInt (Ev_binop (b := ((w : Nat) : Int)) Ev_int ?b3 (op_pow (by omega) (by rw [b2]; omega))) pow_nat) (op_mod (by omega))) fmod_nat) ?b4 (by omega) ?_
      case b1 => fail "M.mem"
      case' b2 => fail "M.ev"
      case' b3 => fail "M.ev"
      case b4 => fail "M.put"
      refine' Xs_assign (b := .fz (.int ((j / 2 ^ w : Nat) : Int))) ?c1 ?c2 ?_
      case' c1 =>
        refine' Ev.ofInt (Ev_binop (a := ((j : Nat) : Int)) (b := ((2 ^ w : Nat) : Int)) ?d2 (Ev.ofInt (Ev_binop (b := ((w : Nat) : Int)) Ev_int ?d3 (op_pow (by omega) (by rw [b2]; omega))) pow_nat) (op_div (by omega) (noPylong (by rw [Int.natAbs_natCast]; omega)))) fdiv_nat
        case' d2 => fail "M.ev"
        case' d3 => fail "M.ev"
      case c2 => fail "M.sto"
      exact Xs_nil ⟨_, j / 2 ^ w, lt, List.Sublist.refl _, _, rfl, by rw [List.append_assoc]; exact he⟩
  · subst h
    refine Xs_freeze List.mem_cons_self .here (Xs_return ?_)
    fail "M.ev"
theorem lsigned_c {w : Nat} {i : Int} (hw : 1 ≤ w ∧ w ≤ 9) (hi : i.natAbs < 2 ^ 60) : FnN g (n + 2) 48 [.int i, .int (w : Nat)] (sV w i) := by
  refine FnN_of (names := ["number", "w"]) (by decide) rfl (by decide) (by decide +kernel) (by intro pm code doc vals h; obtain ⟨v1, v2, rfl⟩ := len2 h; rfl) rfl rfl rfl (by decide +kernel) (Xs.ex (P := fun _ => True) ?_) .ret
  conv in (dAt 48).body => whnf
  conv in (dAt 48).scope.names => whnf
  simp only [bindV, List.zip_cons_cons, List.map_cons, List.zip_nil_left, List.map_nil]
  refine' Xs_return (Ev_tuple (EvF_cons ?a1 (EvF_cons (Ev_callN (k := 47) (EvF_cons (Ev_call (Ev_builtin rfl (by decide)) (EvF_cons ?a2 EvF_nil) .builtin Fn_abs) ?a3) (limbs_c (n := n) hw hi)) EvF_nil)))
  case' a1 => fail "M.ev"
  case' a2 => fail "M.ev"
  case' a3 => fail "M.evs"
end
section
variable {g : Gl} {n : Nat}

def turnW (stays downs : List Int) (p : Nat × Int) : List (Nat × Int) :=
  (if p.1 < 2 then [(p.1 + 1, p.2)] else []) ++ ([(p.1, p.2 * stays.getD p.1 0)] ++ (if 0 < p.1 then [(p.1 - 1, p.2 * downs.getD (p.1 - 1) 0)] else []))
def stepW (stays downs : List Int) (ws : List (Nat × Int)) : List (Nat × Int) := ws.flatMap (turnW stays downs)
def walkW (stays downs : List Int) : Nat → List (Nat × Int)
  | 0 => [(0, 1)]
  | k + 1 => stepW stays downs (walkW stays downs k)
def sumW (stays downs : List Int) (k : Nat) : Int := (((walkW stays downs k).filter (·.1 == 0)).map (·.2)).sum
abbrev ptV (p : Nat × Int) : V := .tuple [.int (p.1 : Nat), .int p.2]
/-- heights at most two, weights and their count bounded -/
def Small (b : Nat) (ws : List (Nat × Int)) : Prop := (∀ p ∈ ws, p.1 ≤ 2 ∧ p.2.natAbs ≤ b) ∧ ws.length ≤ b
theorem small_step {stays downs : List Int} (hs : ∀ x ∈ stays, x.natAbs ≤ 3) (hd : ∀ x ∈ downs, x.natAbs ≤ 3) {b : Nat} {ws : List (Nat × Int)} (h : Small b ws) : Small (3 * b) (stepW stays downs ws) := by
  have getb : ∀ (l : List Int) (i : Nat), (∀ x ∈ l, x.natAbs ≤ 3) → (l.getD i 0).natAbs ≤ 3 := fun l i hl => by
    by_cases q : i < l.length
    · exact hl _ (List.mem_of_getElem? (get_of q))
    · rw [List.getD_eq_getElem?_getD, List.getElem?_eq_none (by omega)]; decide
  constructor
  · intro p hp
    obtain ⟨q, hq, hp⟩ := List.mem_flatMap.mp hp
    obtain ⟨h1, h2⟩ := h.1 q hq
    unfold turnW at hp
    have mb : ∀ x : Int, x.natAbs ≤ 3 → (q.2 * x).natAbs ≤ 3 * b := fun x hx => by
      rw [Int.natAbs_mul]
      have := Nat.mul_le_mul h2 hx
      omega
    rcases List.mem_append.mp hp with hp | hp
    · split at hp
      · cases List.mem_singleton.mp hp
        exact ⟨by simp only; omega, by simp only; omega⟩
      · cases hp
    · rcases List.mem_append.mp hp with hp | hp
      · cases List.mem_singleton.mp hp
        exact ⟨h1, mb _ (getb _ _ hs)⟩
      · split at hp
        · cases List.mem_singleton.mp hp
          exact ⟨by simp only; omega, mb _ (getb _ _ hd)⟩
        · cases hp
  · have : ∀ l : List (Nat × Int), (stepW stays downs l).length ≤ 3 * l.length := fun l => by
      induction l with
      | nil => simp [stepW]
      | cons p l ih =>
        have e : stepW stays downs (p :: l) = turnW stays downs p ++ stepW stays downs l := by simp [stepW]
        rw [e, List.length_append, List.length_cons]
        have : (turnW stays downs p).length ≤ 3 := by
          unfold turnW
          split <;> split <;> simp
        omega
    have h2 := this ws
    have h3 := h.2
    omega
theorem small_walk {stays downs : List Int} (hs : ∀ x ∈ stays, x.natAbs ≤ 3) (hd : ∀ x ∈ downs, x.natAbs ≤ 3) : ∀ k, Small (3 ^ k) (walkW stays downs k)
  | 0 => ⟨fun p hp => by cases List.mem_singleton.mp hp; exact ⟨by decide, by decide⟩, Nat.le_refl _⟩
  | k + 1 => by
    have := small_step hs hd (small_walk hs hd k)
    rw [Nat.pow_succ, Nat.mul_comm]
    exact this
theorem stepW_take {stays downs : List Int} {ws : List (Nat × Int)} {i : Nat} {p : Nat × Int} (h : ws[i]? = some p) : stepW stays downs (ws.take (i + 1)) = stepW stays downs (ws.take i) ++ turnW stays downs p := by
  rw [List.take_add_one, h]
  unfold stepW
  rw [List.flatMap_append]; simp

theorem walks_c {k : Nat} {stays downs : List Int} (hk : k ≤ 4) (ls : stays.length = 3) (ld : downs.length = 2) (hs : ∀ x ∈ stays, x.natAbs ≤ 3) (hd : ∀ x ∈ downs, x.natAbs ≤ 3) :
    FnN g (n + 1) 50 [.int (k : Nat), lV stays, lV downs] (.int (sumW stays downs k)) := by
  refine FnN_of (names := ["steps", "stays", "downs"]) (by decide) rfl (by decide) (by decide +kernel) (by intro pm code doc vals h; obtain ⟨v1, v2, v3, rfl⟩ := len3 h; rfl) rfl rfl rfl (by decide +kernel) (Xs.ex (P := fun _ => True) ?_) .ret
  conv in (dAt 50).body => whnf
  conv in (dAt 50).scope.names => whnf
  simp only [bindV, List.zip_cons_cons, List.map_cons, List.zip_nil_left, List.map_nil]
  refine' Xs_assign (b := .fz (.list ([((0 : Nat), (1 : Int))].map ptV))) (EvO_list (EvF_cons (Ev_tuple (EvF_cons Ev_int (EvF_cons Ev_int EvF_nil))) EvF_nil)).fz ?a1 ?_
  case a1 => fail "M.sto"
  refine Xs_for (fun i r => i ≤ k ∧ r = ([("walks", .fz (.list ((walkW stays downs i).map ptV))), ("steps", .fz (.int (k : Nat))), ("stays", .fz (lV stays)), ("downs", .fz (lV downs))] : Rh))
    (EvIt_upTo (m := k) ?_ (by omega)) .name (fun i v r hv hp => ?_) ⟨Nat.zero_le _, rfl⟩ (fun r hr => ?_)
  · fail "M.ev"
  · obtain ⟨hi, rfl⟩ := rngV_get hv
    obtain ⟨_, rfl⟩ := hp
    refine ⟨_, .name (Sto.new (by fail "M.new")) rfl, ?_⟩
    have sm := small_walk hs hd i
    have b3 : 3 ^ i ≤ 81 := Nat.le_trans (Nat.pow_le_pow_right (by decide) (show i ≤ 4 by omega)) (by decide)
    show Xs g n _ _ _ _ _
    generalize hws : walkW stays downs i = ws at *
    refine' Xs_assign (b := .own (([] : List (Nat × Int)).map ptV)) (EvO_list EvF_nil).ev ?b1 ?_
    case b1 => fail "M.sto"
    refine Xs_for (fun j r => j ≤ ws.length ∧ r = ([("longer", .own ((stepW stays downs (ws.take j)).map ptV)), ("turn", .fz (.int ((0 + i : Nat) : Int))), ("walks", .fz (.list (ws.map ptV))), ("steps", .fz (.int (k : Nat))), ("stays", .fz (lV stays)), ("downs", .fz (lV downs))] : Rh))
      (EvIt_list (xs := ws.map ptV) ?_) .pair (fun j v r hv hp => ?_) ⟨Nat.zero_le _, rfl⟩ (fun r hr => ?_)
    · fail "M.ev"
    · rw [List.getElem?_map, Option.map_eq_some_iff] at hv
      obtain ⟨p, hp0, rfl⟩ := hv
      obtain ⟨_, rfl⟩ := hp
      have hj := (List.getElem?_eq_some_iff.mp hp0).1
      obtain ⟨h1, h2⟩ := sm.1 p (List.mem_of_getElem? hp0)
      have st := stepW_take (stays := stays) (downs := downs) hp0
      have len2 := (small_step hs hd (b := 81) (ws := ws.take j) ⟨fun q hq => ⟨(sm.1 q (List.mem_of_mem_take hq)).1, by have := (sm.1 q (List.mem_of_mem_take hq)).2; omega⟩, by have := sm.2; rw [List.length_take]; omega⟩).2
      obtain ⟨h, x⟩ := p
      simp only at h1 h2
      refine ⟨_, .pair (Sto.new (by fail "M.new")) (Sto.new (by fail "M.new")) rfl rfl, ?_⟩
      rw [st]
      generalize stepW stays downs (ws.take j) = L at *
      have hL : L.length ≤ 243 := by omega
      have ws3 : (stays.getD h 0).natAbs ≤ 3 := hs _ (List.mem_of_getElem? (get_of (by omega)))
      have eh : ((h : Nat) : Int).toNat = h := Int.toNat_natCast h
      have mo : ∀ y : Int, IntMulOk x y := fun y => .of_left (Nat.le_trans (bits_le (k := 60) (by omega)) (by decide))
      refine' Xs_mid (ρ' := ([("weight", .fz (.int x)), ("height", .fz (.int (h : Nat))), ("longer", .own ((L ++ (if h < 2 then [(h + 1, x)] else [])).map ptV)), ("turn", .fz (.int ((0 + i : Nat) : Int))), ("walks", .fz (.list (ws.map ptV))), ("steps", .fz (.int (k : Nat))), ("stays", .fz (lV stays)), ("downs", .fz (lV downs))] : Rh)) ?c1 (fun hc => ?_) (fun hc => ?_) ?_
      case' c1 => fail "M.tr"
      · have hh : h < 2 := by have := of_decide_eq_true hc; omega
        rw [if_pos hh]
        refine' Xs_appendV (y := ptV (h + 1, x)) ?d1 (Ev_tuple (EvF_cons (Ev.ofInt (Ev_binop (a := ((h : Nat) : Int)) ?d2 Ev_int op_add) ?d3) ?d4)) ?d5 ?d6 (Xs_nil ?d7)
        case d1 => fail "M.mem"
        case' d2 => fail "M.ev"
        case d3 => rfl
        case' d4 => fail "M.evs"
        case d5 => fail "M.put"
        case d6 => rw [List.length_map]; omega
        case d7 => rw [List.map_append]; rfl
      · have hh : ¬ h < 2 := by have := of_decide_eq_false hc; omega
        rw [if_neg hh, List.append_nil]
      · have hL1 : (L ++ (if h < 2 then [(h + 1, x)] else [])).length ≤ 244 := by
          rw [List.length_append]
          split <;> simp <;> omega
        have assoc : L ++ turnW stays downs (h, x) = (L ++ (if h < 2 then [(h + 1, x)] else [])) ++ [(h, x * stays.getD h 0)] ++ (if 0 < h then [(h - 1, x * downs.getD (h - 1) 0)] else []) := by
          unfold turnW
          simp only [List.append_assoc]
        rw [assoc]
        generalize L ++ (if h < 2 then [(h + 1, x)] else []) = L1 at *
        refine' Xs_appendV (y := ptV (h, x * stays.getD h 0)) ?e1 (Ev_tuple (EvF_cons ?e2 (EvF_cons (Ev.ofInt (Ev_binop (a := x) ?e3 (Ev_itemI (xs := stays) ?e4 (k := (h : Nat)) ?e5 (by omega)) (op_mul (mo _))) (by rw [eh])) EvF_nil))) ?e6 ?e7 ?_
        case e1 => fail "M.mem"
        case' e2 => fail "M.ev"
        case' e3 => fail "M.ev"
        case' e4 => fail "M.ev"
        case' e5 => fail "M.ev"
        case e6 => fail "M.put"
        case e7 => rw [List.length_map]; omega
        have em : L1.map ptV ++ [ptV (h, x * stays.getD h 0)] = (L1 ++ [(h, x * stays.getD h 0)]).map ptV := by rw [List.map_append]; rfl
        rw [em]
        have hL2 : (L1 ++ [(h, x * stays.getD h 0)]).length ≤ 245 := by rw [List.length_append]; simp; omega
        generalize L1 ++ [(h, x * stays.getD h 0)] = L2 at *
        refine' Xs_mid (ρ' := ([("weight", .fz (.int x)), ("height", .fz (.int (h : Nat))), ("longer", .own ((L2 ++ (if 0 < h then [(h - 1, x * downs.getD (h - 1) 0)] else [])).map ptV)), ("turn", .fz (.int ((0 + i : Nat) : Int))), ("walks", .fz (.list (ws.map ptV))), ("steps", .fz (.int (k : Nat))), ("stays", .fz (lV stays)), ("downs", .fz (lV downs))] : Rh)) ?f1 (fun hc => ?_) (fun hc => ?_) (Xs_nil ⟨_, drop2, hj, rfl⟩)
        case' f1 => fail "M.tr"
        · have hh : 0 < h := by have := of_decide_eq_true hc; omega
          rw [if_pos hh]
          have e1 : ((h : Nat) : Int) - 1 = ((h - 1 : Nat) : Int) := by omega
          refine' Xs_appendV (y := ptV (h - 1, x * downs.getD (h - 1) 0)) ?g1 (Ev_tuple (EvF_cons (Ev.ofInt (Ev_binop (a := ((h : Nat) : Int)) ?g2 Ev_int op_sub) e1) (EvF_cons (Ev_binop (a := x) ?g3 (Ev.ofInt (Ev_itemI (xs := downs) ?g4 (k := ((h - 1 : Nat) : Int)) (Ev.ofInt (Ev_binop (a := ((h : Nat) : Int)) ?g5 Ev_int op_sub) e1) (by omega)) (by rw [Int.toNat_natCast])) (op_mul (mo _))) EvF_nil))) ?g6 ?g7 (Xs_nil ?g8)
          case g1 => fail "M.mem"
          case' g2 => fail "M.ev"
          case' g3 => fail "M.ev"
          case' g4 => fail "M.ev"
          case' g5 => fail "M.ev"
          case g6 => fail "M.put"
          case g7 => rw [List.length_map]; omega
          case g8 => rw [List.map_append]; rfl
        · have hh : ¬ 0 < h := by have := of_decide_eq_false hc; omega
          rw [if_neg hh, List.append_nil]
    · rw [List.length_map] at hr
      obtain ⟨_, rfl⟩ := hr
      rw [List.take_length]
      refine' Xs_freeze (x := "longer") ?h1 ?h2 (Xs_assign (b := .fz (.list ((stepW stays downs ws).map ptV))) ?h3 ?h4 (Xs_nil ⟨_, drop2, by omega, ?h5⟩))
      case h1 => fail "M.mem"
      case h2 => fail "M.put"
      case' h3 => fail "M.ev"
      case h4 => fail "M.sto"
      case h5 => rw [walkW, hws]
  · rw [rngV_len, Nat.sub_zero] at hr
    obtain ⟨_, rfl⟩ := hr
    have sm := small_walk hs hd k
    have b3 : 3 ^ k ≤ 81 := Nat.le_trans (Nat.pow_le_pow_right (by decide) hk) (by decide)
    unfold sumW
    generalize walkW stays downs k = ws at *
    have e2 : (ws.filter (·.1 == 0)).map (fun p => V.int p.2) = ((ws.filter (·.1 == 0)).map (·.2)).map V.int := by rw [List.map_map]; rfl
    refine' Xs_return (Ev_call (xs := []) (Ev_builtin rfl (by decide)) (EvF_cons (x := lV ((ws.filter (·.1 == 0)).map (·.2))) ?a6 EvF_nil) .builtin Fn_sum)
    case' a6 =>
      refine' (EvO_comp2 (va := fun p : Nat × Int => .int (p.1 : Nat)) (vb := fun p => .int p.2) (out := fun p => .int p.2) (f := fun p => p.1 == 0) (ws := ws) (EvIt_list ?b6) (CompOk.of rfl rfl rfl rfl rfl rfl) (by decide) ?b7 (fun p => ?b8) (fun p => ?b9)).fzI e2
      case' b6 => fail "M.ev"
      case b7 => have := sm.2; omega
      case' b8 =>
        refine' Tr.of ?z1 ?z2
        case' z1 => fail "M.tr"
        case z2 =>
          rw [Bool.eq_iff_iff]
          simp only [beq_iff_eq]
          omega
      case' b9 => fail "M.ev"
end
section
variable {g : Gl} {n : Nat}

theorem need_c {a : Nat} : FnN g (n + 1) 15 [.int (a : Nat)] .none := by
  refine FnN_of (names := ["n"]) (by decide) rfl (by decide) (by decide +kernel) (by intro pm code doc vals h; obtain ⟨v1, rfl⟩ := len1 h; rfl) rfl rfl rfl (by decide +kernel) (f := .next) (Xs.ex (P := fun _ => True) ?_) (.none rfl)
  conv in (dAt 15).body => whnf
  conv in (dAt 15).scope.names => whnf
  simp only [bindV, List.zip_cons_cons, List.map_cons, List.zip_nil_left, List.map_nil]
  refine Xs_skip ?_ (Xs_nil trivial)
  fail "M.if"

def fexp (p : Nat) : Nat → Nat → Nat
  | 0, _ => 0
  | f + 1, a => if a = 0 then 0 else a / p + fexp p f (a / p)
theorem fexp_c {a p : Nat} (hp : 2 ≤ p) (hp' : p < 1000) (ha : a < 1000) : FnN g (n + 1) 18 [.int (a : Nat), .int (p : Nat)] (.int (fexp p a a : Nat)) := by
  refine FnN_of (names := ["n", "prime"]) (by decide) rfl (by decide) (by decide +kernel) (by intro pm code doc vals h; obtain ⟨v1, v2, rfl⟩ := len2 h; rfl) rfl rfl rfl (by decide +kernel) (Xs.ex (P := fun _ => True) ?_) .ret
  conv in (dAt 18).body => whnf
  conv in (dAt 18).scope.names => whnf
  simp only [bindV, List.zip_cons_cons, List.map_cons, List.zip_nil_left, List.map_nil]
  have any : ∀ f b : Nat, b ≤ f → fexp p f b = fexp p b b := by
    intro f
    induction f using Nat.strongRecOn with
    | ind f ih =>
      intro b hb
      cases b with
      | zero => cases f <;> simp [fexp]
      | succ b =>
        cases f with
        | zero => omega
        | succ f =>
          have lt : (b + 1) / p < b + 1 := Nat.div_lt_self (by omega) (by omega)
          simp only [fexp, if_neg (show ¬ b + 1 = 0 by omega)]
          by_cases e : f = b
          · subst e; rfl
          · rw [ih f (by omega) ((b + 1) / p) (by omega), ih b (by omega) ((b + 1) / p) (by omega)]
  have step : ∀ b : Nat, b ≠ 0 → fexp p b b = b / p + fexp p (b / p) (b / p) := fun b hb => by
    obtain ⟨c, rfl⟩ : ∃ c, b = c + 1 := ⟨b - 1, by omega⟩
    have lt : (c + 1) / p < c + 1 := Nat.div_lt_self (by omega) (by omega)
    conv => lhs; unfold fexp
    rw [if_neg hb, any c _ (by omega)]
  fail "M.st"
  refine Xs_while (fun j r => ∃ f : Nat, r = ([("found", .fz (.int (f : Nat))), ("n", .fz (.int (j : Nat))), ("prime", .fz (.int (p : Nat)))] : Rh) ∧ f + fexp p j j = fexp p a a) (fun r => r = ([("found", .fz (.int (fexp p a a : Nat))), ("n", .fz (.int (0 : Nat))), ("prime", .fz (.int (p : Nat)))] : Rh)) (fun j r h => ?_) a ⟨0, rfl, by omega⟩ (fun r h => ?_)
  · obtain ⟨f, rfl, he⟩ := h
    by_cases hj : j = 0
    · subst hj
      refine .inl ⟨?_, ?_⟩
      · fail "M.if"
      · have : f = fexp p a a := by simpa [fexp] using he
        rw [this]
    · have lt : j / p < j := Nat.div_lt_self (by omega) (by omega)
      refine .inr ⟨?_, ?_⟩
      · fail "M.if"
      refine' Xs_assign (b := .fz (.int ((j / p : Nat) : Int))) ?a1 ?a2 ?_
      case' a1 =>
        refine' Ev.ofInt (Ev_binop (a := ((j : Nat) : Int)) (b := ((p : Nat) : Int)) ?d1 ?d2 (op_div (by omega) (noPylong (by rw [Int.natAbs_natCast]; omega)))) fdiv_nat
        case' d1 => fail "M.ev"
        case' d2 => fail "M.ev"
      case a2 => fail "M.sto"
      fail "M.st"
      refine Xs_nil ⟨_, j / p, lt, List.Sublist.refl _, f + j / p, rfl, ?_⟩
      rw [step j hj] at he
      omega
  · subst h
    refine Xs_return ?_
    fail "M.ev"
end
section
variable {g : Gl} {n : Nat} {kn : Kn} {ρ : Rh}

-- ranges with a step
def cnt (a b c : Nat) : Nat := if a < b then (b - a - 1) / c + 1 else 0
def stV (a b c : Nat) : List V := (List.range (cnt a b c)).map fun j => V.int ((a + j * c : Nat) : Int)
theorem size_cnt {a b c : Nat} (hc : 0 < c) : Builtin.Range.rangeSize (a : Int) (b : Int) (c : Int) = (cnt a b c : Nat) := by
  unfold Builtin.Range.rangeSize cnt
  rw [if_pos (by omega)]
  by_cases h : a < b
  · rw [if_pos (by omega), if_pos h]
    have e : ((b : Int) - (a : Int) - 1) = ((b - a - 1 : Nat) : Int) := by omega
    rw [e]; norm_cast
  · rw [if_neg (by omega), if_neg h]; rfl
theorem rangeV_st {a b c : Nat} (hc : 0 < c) : rangeV (a : Int) (b : Int) (c : Int) = stV a b c := by
  unfold rangeV stV
  rw [size_cnt hc, Int.toNat_natCast]
  apply List.map_congr_left
  intro j _
  congr 1
theorem cnt_lt {a b c j : Nat} (hc : 0 < c) (h : j < cnt a b c) : a + j * c < b := by
  unfold cnt at h
  split at h
  · have h1 : j ≤ (b - a - 1) / c := by omega
    have h2 := Nat.mul_le_mul_right c h1
    have h3 := Nat.div_mul_le_self (b - a - 1) c
    omega
  · omega
theorem small_st {a b c : Nat} (hc : 0 < c) (ha : a < 2 ^ 40) (hb : b < 2 ^ 40) (hc' : c < 2 ^ 40) : Builtin.Range.small (a : Int) (b : Int) (c : Int) = true := by
  have hn : cnt a b c ≤ b := by
    unfold cnt
    split
    · have := Nat.div_le_self (b - a - 1) c; omega
    · omega
  unfold Builtin.Range.small
  rw [size_cnt hc]
  simp only [Builtin.Range.rangeFitsLong, Bool.and_eq_true, Bool.or_eq_true, decide_eq_true_eq, beq_iff_eq, show ((c : Int) > 0) by omega, if_true]
  omega
theorem EvIt_st {a b c : Expr} {q p : Pos} {k m j : Nat} (h : Ev g n kn ρ a (.fz (.int (k : Nat)))) (h' : Ev g n kn ρ b (.fz (.int (m : Nat)))) (h'' : Ev g n kn ρ c (.fz (.int (j : Nat)))) (h1 : 0 < j ∧ j < 2 ^ 40 ∧ k < 2 ^ 40 ∧ m < 2 ^ 40)
    (hcall : ∀ env, eval (.Call (.Name "range" q) [a, b, c] [] p) env = (do callWith p (← eval (.Name "range" q) env) [] (backTo p (starEach [a, b, c] env)) (backToKw p (keywordEach [] env))) := by intro _; rfl)
    (he : ∀ env, starEach [a, b, c] env = [(false, eval a env), (false, eval b env), (false, eval c env)] := by intro _; rfl) (he2 : ∀ env, starEach [b, c] env = [(false, eval b env), (false, eval c env)] := by intro _; rfl) (he3 : ∀ env, starEach [c] env = [(false, eval c env)] := by intro _; rfl) (hk : kn.lookup ("range" : Str) = some .globalImplicit := by rfl) :
    EvIt g n kn ρ false (.Call (.Name "range" q) [a, b, c] [] p) (stV k m j) := by
  have := EvIt_range3 (q := q) (p := p) h h' h'' (by omega) (small_st h1.1 h1.2.2.1 h1.2.2.2 h1.2.1) (noPylong (by rw [Int.natAbs_natCast]; omega)) hcall he he2 he3 hk
  rwa [rangeV_st h1.1] at this
theorem stV_get {a b c i : Nat} {v : V} (h : (stV a b c)[i]? = some v) : i < cnt a b c ∧ v = .int ((a + i * c : Nat) : Int) := by
  unfold stV at h
  rw [List.getElem?_map, Option.map_eq_some_iff] at h
  obtain ⟨j, h1, h2⟩ := h
  obtain ⟨h3, h4⟩ := List.getElem?_eq_some_iff.mp h1
  rw [List.getElem_range] at h4
  rw [List.length_range] at h3
  subst h4
  exact ⟨h3, h2.symm⟩
theorem stV_len {a b c : Nat} : (stV a b c).length = cnt a b c := by simp [stV]

def markF (a c : Nat) (l : List Bool) : Nat → List Bool
  | 0 => l
  | j + 1 => (markF a c l j).set (a + j * c) false
theorem markF_len {a c : Nat} {l : List Bool} : ∀ j, (markF a c l j).length = l.length
  | 0 => rfl
  | j + 1 => by rw [markF, List.length_set, markF_len j]
def sieveS (m : Nat) : Nat → List Bool × List Nat
  | 0 => (List.replicate (m + 1) true, [])
  | i + 1 => if (sieveS m i).1.getD (2 + i) false then (markF ((2 + i) * (2 + i)) (2 + i) (sieveS m i).1 (cnt ((2 + i) * (2 + i)) (m + 1) (2 + i)), (sieveS m i).2 ++ [2 + i]) else sieveS m i
theorem sieveS_len {m : Nat} : ∀ i, (sieveS m i).1.length = m + 1
  | 0 => by simp [sieveS]
  | i + 1 => by
    unfold sieveS
    split
    · simp only [markF_len, sieveS_len i]
    · exact sieveS_len i
theorem sieveS_cnt {m : Nat} : ∀ i, (sieveS m i).2.length ≤ i
  | 0 => by simp [sieveS]
  | i + 1 => by
    have := sieveS_cnt (m := m) i
    unfold sieveS
    split
    · simp only [List.length_append, List.length_singleton]; omega
    · omega

theorem sieve_c {m : Nat} (hm : m ≤ 100) : FnN g (n + 1) 14 [.int (m : Nat)] (lV ((sieveS m (m + 1 - 2)).2.map fun i => ((i : Nat) : Int))) := by
  refine FnN_of (names := ["n"]) (by decide) rfl (by decide) (by decide +kernel) (by intro pm code doc vals h; obtain ⟨v1, rfl⟩ := len1 h; rfl) rfl rfl rfl (by decide +kernel) (Xs.ex (P := fun _ => True) ?_) .ret
  conv in (dAt 14).body => whnf
  conv in (dAt 14).scope.names => whnf
  simp only [bindV, List.zip_cons_cons, List.map_cons, List.zip_nil_left, List.map_nil]
  have en : ((m : Int) + 1) = ((m + 1 : Nat) : Int) := by omega
  refine' Xs_assign (b := .own ((sieveS m 0).1.map V.bool)) ((EvO_rep Ev_bool (Ev_binop (a := ((m : Nat) : Int)) ?a1 Ev_int op_add) (by omega) (by omega)).of ?a2).ev ?a3 ?_
  case' a1 => fail "M.ev"
  case a2 => rw [en, Int.toNat_natCast]; simp [sieveS]
  case a3 => fail "M.sto"
  refine' Xs_assign (b := .own (((sieveS m 0).2.map fun i => ((i : Nat) : Int)).map V.int)) (EvO_list EvF_nil).ev ?a4 ?_
  case a4 => fail "M.sto"
  refine' Xs_for (fun i r => i ≤ m + 1 - 2 ∧ r = ([("found", .own (((sieveS m i).2.map fun i => ((i : Nat) : Int)).map V.int)), ("is_left", .own ((sieveS m i).1.map V.bool)), ("n", .fz (.int (m : Nat)))] : Rh))
    (EvIt_up (k := 2) (m := m + 1) Ev_int (Ev.ofInt (Ev_binop (a := ((m : Nat) : Int)) ?a5 Ev_int op_add) en) (by omega)) .name (fun i v r hv hp => ?_) ⟨Nat.zero_le _, rfl⟩ (fun r hr => ?_)
  case' a5 => fail "M.ev"
  · obtain ⟨hi, rfl⟩ := rngV_get hv
    obtain ⟨_, rfl⟩ := hp
    refine ⟨_, .name (Sto.new (by fail "M.new")) rfl, ?_⟩
    have ln := sieveS_len (m := m) i
    have lc := sieveS_cnt (m := m) i
    have sx : sieveS m (i + 1) = if (sieveS m i).1.getD (2 + i) false then (markF ((2 + i) * (2 + i)) (2 + i) (sieveS m i).1 (cnt ((2 + i) * (2 + i)) (m + 1) (2 + i)), (sieveS m i).2 ++ [2 + i]) else sieveS m i := rfl
    rw [sx]
    generalize sieveS m i = S at *
    obtain ⟨l, fd⟩ := S
    simp only at ln lc ⊢
    generalize ho : 2 + i = one at *
    have h1 : one < m + 1 := by omega
    have eg : (l.map V.bool)[((one : Nat) : Int).toNat]? = some (.bool (l.getD one false)) := by
      rw [Int.toNat_natCast, List.getElem?_map, List.getD_eq_getElem?_getD, List.getElem?_eq_getElem (by omega)]; rfl
    cases hb : l.getD one false with
    | false =>
      rw [hb] at eg
      rw [if_neg (by decide)]
      refine' Xs_skip (Tr_bool (Ev_itemOwn ?b1 ?b2 (by omega) (by omega) eg)) (Xs_nil ⟨_, drop1, by omega, rfl⟩)
      case b1 => fail "M.mem"
      case' b2 => fail "M.ev"
    | true =>
      rw [hb] at eg
      rw [if_pos rfl]
      refine' Xs_ifT (Tr_bool (Ev_itemOwn ?c1 ?c2 (by omega) (by omega) eg)) ?_
      case c1 => fail "M.mem"
      case' c2 => fail "M.ev"
      refine' Xs_append (xs := fd.map fun i => ((i : Nat) : Int)) (y := (one : Nat)) ?c3 ?c4 ?c5 (by rw [List.length_map]; omega) ?_
      case c3 => fail "M.mem"
      case' c4 => fail "M.ev"
      case c5 => fail "M.put"
      have sq : one * one < 2 ^ 40 := Nat.lt_of_le_of_lt (Nat.mul_le_mul (show one ≤ 100 by omega) (show one ≤ 100 by omega)) (by decide)
      refine' Xs_for (fun j r => j ≤ cnt (one * one) (m + 1) one ∧ r = ([("one", .fz (.int (one : Nat))), ("found", .own ((fd.map (fun i => ((i : Nat) : Int)) ++ [((one : Nat) : Int)]).map V.int)), ("is_left", .own ((markF (one * one) one l j).map V.bool)), ("n", .fz (.int (m : Nat)))] : Rh))
        (EvIt_st (k := one * one) (m := m + 1) (j := one) (Ev.ofInt (Ev_binop (a := ((one : Nat) : Int)) (b := ((one : Nat) : Int)) ?d1 ?d2 (op_mul (mulok (by omega)))) (by norm_cast)) (Ev.ofInt (Ev_binop (a := ((m : Nat) : Int)) ?d3 Ev_int op_add) en) ?d4 (by omega)) .name (fun j v r hv hp => ?_) ⟨Nat.zero_le _, rfl⟩ (fun r hr => ?_)
      case' d1 => fail "M.ev"
      case' d2 => fail "M.ev"
      case' d3 => fail "M.ev"
      case' d4 => fail "M.ev"
      · obtain ⟨hj, rfl⟩ := stV_get hv
        obtain ⟨_, rfl⟩ := hp
        refine ⟨_, .name (Sto.new (by fail "M.new")) rfl, ?_⟩
        have lt := cnt_lt (by omega) hj
        have lm := markF_len (a := one * one) (c := one) (l := l) j
        have es : ((markF (one * one) one l j).set (one * one + j * one) false).map V.bool = ((markF (one * one) one l j).map V.bool).set ((one * one + j * one : Nat) : Int).toNat (.bool false) := by rw [Int.toNat_natCast, List.map_set]
        refine' Xs_cons (Ex_setItem (xs := (markF (one * one) one l j).map V.bool) (k := ((one * one + j * one : Nat) : Int)) (y := .bool false) ?e1 Ev_bool ?e2 (by omega) (by omega) (by rw [List.length_map]; omega) ?e3) (Xs_nil ⟨_, drop1, hj, ?e4⟩)
        case e1 => fail "M.mem"
        case' e2 => fail "M.ev"
        case e3 => fail "M.put"
        case e4 => rw [markF, es]
      · rw [stV_len] at hr
        obtain ⟨_, rfl⟩ := hr
        exact Xs_nil (Xs_nil ⟨_, drop1, by omega, by simp only [List.map_append, List.map_cons, List.map_nil]⟩)
  · rw [rngV_len] at hr
    obtain ⟨_, rfl⟩ := hr
    refine Xs_freeze List.mem_cons_self .here (Xs_return ?_)
    fail "M.ev"
end
section
variable {g : Gl} {n : Nat}

theorem nat_c {w m : Nat} (hw : 1 ≤ w ∧ w ≤ 9) (hm : m < 2 ^ 60) : FnN g (n + 1) 5 [.int (m : Nat), .int (w : Nat)] (nV w m) := by
  refine FnN_of (names := ["number", "w"]) (by decide) rfl (by decide) (by decide +kernel) (by intro pm code doc vals h; obtain ⟨v1, v2, rfl⟩ := len2 h; rfl) rfl rfl rfl (by decide +kernel) (Xs.ex (P := fun _ => True) ?_) .ret
  conv in (dAt 5).body => whnf
  conv in (dAt 5).scope.names => whnf
  simp only [bindV, List.zip_cons_cons, List.map_cons, List.zip_nil_left, List.map_nil]
  have lm := dig_len hw.1 hm
  have p1 : 1 < 2 ^ w := Nat.one_lt_two_pow (by omega)
  refine Xs_skip ?_ ?_
  · fail "M.if"
  refine' Xs_cons (Ex_tup2 (b1 := .own (([] : List Int).map V.int)) (b2 := .fz (.int (2 ^ w - 1))) (EvO_list EvF_nil).ev ?e2 ?s2 ?s1) ?_
  case e2 =>
    refine' Ev.ofInt ?h ?e
    case' h => fail "M.ev"
    case e => exact one_shl
    · omega
    · have : Builtin.Int.intBits 1 = 1 := by decide
      rw [this]; omega
  case s2 => fail "M.sto"
  case s1 => fail "M.sto"
  refine Xs_while (fun j r => ∃ found, r = ([("found", .own ((found : List Int).map V.int)), ("mask", .fz (.int (2 ^ w - 1))), ("number", .fz (.int (j : Nat))), ("w", .fz (.int (w : Nat)))] : Rh) ∧ found ++ dig w j = dig w m) (fun r => ∃ z, r = ((("found", .own ((dig w m).map V.int)) : Str × B) :: z : Rh)) (fun j r h => ?_) m ⟨[], rfl, rfl⟩ (fun r h => ?_)
  · obtain ⟨found, rfl, he⟩ := h
    by_cases hj : j = 0
    · subst hj
      rw [dig_zero, List.append_nil] at he
      subst he
      refine .inl ⟨?_, _, rfl⟩
      fail "M.if"
    · have lt : j / 2 ^ w < j := Nat.div_lt_self (by omega) p1
      have lf : found.length ≤ 60 := by
        have := congrArg List.length he
        rw [List.length_append] at this; omega
      rw [dig_step hw.1 hj] at he
      have m1 : Builtin.bitAnd (j : Int) (2 ^ w - 1) = ((j % 2 ^ w : Nat) : Int) := by rw [mask_eq (by omega)]; norm_cast
      have m2 : (j : Int).fdiv (2 ^ ((w : Nat) : Int).toNat) = ((j / 2 ^ w : Nat) : Int) := by rw [pow_nat, fdiv_nat]
      refine .inr ⟨?_, ?_⟩
      · fail "M.if"
      fail "M.st"
      fail "M.st"
      · omega
      rw [m1, m2]
      exact Xs_nil ⟨_, j / 2 ^ w, lt, List.Sublist.refl _, _, rfl, by rw [List.append_assoc]; exact he⟩
  · obtain ⟨z, rfl⟩ := h
    refine Xs_freeze List.mem_cons_self .here (Xs_return ?_)
    fail "M.ev"
end
section
variable {g : Gl} {n : Nat}

theorem pow_half {s j : Nat} (h : j / 2 ≠ 0) : (s * s) ^ (j / 2) * s ^ (j % 2) = s ^ j := by
  have e : s * s = s ^ 2 := by rw [Nat.pow_two]
  rw [e, ← Nat.pow_mul, ← Nat.pow_add]
  congr 1
  omega
theorem le_of_mul {f s j t : Nat} (hs : 1 ≤ s) (h : f * s ^ j = t) : f ≤ t := by
  have : 1 ≤ s ^ j := Nat.one_le_pow _ _ hs
  rw [← h]
  exact Nat.le_mul_of_pos_right f (by omega)
theorem le_of_mul' {f s j t : Nat} (hf : 1 ≤ f) (hs : 1 ≤ s) (hj : j ≠ 0) (h : f * s ^ j = t) : s ≤ t := by
  have h1 : s ≤ s ^ j := by
    have := Nat.pow_le_pow_right hs (show 1 ≤ j by omega)
    rwa [Nat.pow_one] at this
  rw [← h]
  exact Nat.le_trans h1 (Nat.le_mul_of_pos_left _ (by omega))
theorem pow_c {w b e : Nat} {m : Value} (hw : 1 ≤ w ∧ w ≤ 9) (hm : IsDef g 38 m) (hb : 1 ≤ b) (he : e ≠ 0) (hz : b ^ e < 2 ^ 58) (hb2 : b < 2 ^ 58) (he2 : e < 1000) : FnN g (n + 3) 16 [.int (b : Nat), .int (e : Nat), .int (w : Nat), .raw m] (nV w (b ^ e)) := by
  refine FnN_of (names := ["base", "many", "w", "mul"]) (by decide) rfl (by decide) (by decide +kernel) (by intro pm code doc vals h; obtain ⟨v1, v2, v3, v4, rfl⟩ := len4 h; rfl) rfl rfl rfl (by decide +kernel) (Xs.ex (P := fun _ => True) ?_) .ret
  conv in (dAt 16).body => whnf
  conv in (dAt 16).scope.names => whnf
  simp only [bindV, List.zip_cons_cons, List.map_cons, List.zip_nil_left, List.map_nil]
  have e1 : nV w 1 = .list [.int 1] := by rw [nV, dig_one hw.1]; rfl
  refine' Xs_cons (Ex_tup2 (b1 := .fz (nV w 1)) (b2 := .fz (nV w b)) ?a1 (Ev_callN (k := 5) ?a2 ((nat_c (n := n) hw (by omega)).less (by omega))) ?s2 ?s1) ?_
  case a1 =>
    rw [e1]
    exact (EvO_list (EvF_cons Ev_int EvF_nil)).fz
  case' a2 => fail "M.evs"
  case s2 => fail "M.sto"
  case s1 => fail "M.sto"
  refine Xs_while (fun j r => ∃ f s, r = ([("found", .fz (nV w f)), ("square", .fz (nV w s)), ("base", .fz (.int (b : Nat))), ("many", .fz (.int (j : Nat))), ("w", .fz (.int (w : Nat))), ("mul", .fz (.raw m))] : Rh) ∧ f * s ^ j = b ^ e ∧ 1 ≤ f ∧ 1 ≤ s ∧ j < 1000) (fun r => ∃ z, r = ((("found", .fz (nV w (b ^ e))) : Str × B) :: z : Rh)) (fun j r h => ?_) e ⟨1, b, rfl, by rw [Nat.one_mul], by omega, hb, he2⟩ (fun r h => ?_)
  · obtain ⟨f, s, rfl, h1, hf, hs, hj2⟩ := h
    by_cases hj : j = 0
    · subst hj
      refine .inl ⟨?_, ?_⟩
      · fail "M.if"
      · rw [Nat.pow_zero, Nat.mul_one] at h1
        rw [h1]; exact ⟨_, rfl⟩
    · have bf := le_of_mul hs h1
      have bs := le_of_mul' hf hs hj h1
      have lt : j / 2 < j := by omega
      have em : ((j : Nat) : Int).fmod 2 = ((j % 2 : Nat) : Int) := fmod_nat (a := j) (b := 2)
      have ed : ((j : Nat) : Int).fdiv 2 = ((j / 2 : Nat) : Int) := fdiv_nat (a := j) (b := 2)
      refine .inr ⟨?_, ?_⟩
      · fail "M.if"
      refine' Xs_mid (c := ((((j % 2 : Nat) : Int)) == 1)) (ρ' := ([("found", .fz (nV w (f * s ^ (j % 2)))), ("square", .fz (nV w s)), ("base", .fz (.int (b : Nat))), ("many", .fz (.int (j : Nat))), ("w", .fz (.int (w : Nat))), ("mul", .fz (.raw m))] : Rh)) (Tr_cmp (Ev.ofInt (Ev_binop (a := ((j : Nat) : Int)) (b := 2) ?b1 Ev_int (op_mod (by decide))) em) Ev_int (VCmp.int cmp_eq)) (fun hc => ?_) (fun hc => ?_) ?_
      case' b1 => fail "M.ev"
      · have h2 : j % 2 = 1 := by have := eq_of_beq hc; omega
        rw [h2, Nat.pow_one]
        refine' Xs_assign (b := .fz (nV w (f * s))) (Ev_callDef (k := 38) ?c1 ?c2 hm (mul_c (n := n) hw (by omega) (by omega))) ?c3 (Xs_nil rfl)
        case c1 => fail "M.mem"
        case' c2 => fail "M.evs"
        case c3 => fail "M.sto"
      · have h2 : j % 2 = 0 := by
          have : ¬ (((j % 2 : Nat) : Int)) = 1 := by simpa using hc
          omega
        rw [h2, Nat.pow_zero, Nat.mul_one]
      · refine' Xs_assign (b := .fz (.int ((j / 2 : Nat) : Int))) (Ev.ofInt (Ev_binop (a := ((j : Nat) : Int)) (b := 2) ?d1 Ev_int (op_div (by decide) (noPylong (by decide)))) ed) ?d2 ?_
        case' d1 => fail "M.ev"
        case d2 => fail "M.sto"
        by_cases h0 : j / 2 = 0
        · have j1 : j = 1 := by omega
          refine' Xs_skip ?d3 (Xs_nil ⟨_, j / 2, lt, List.Sublist.refl _, f * s ^ (j % 2), s, rfl, ?d4, ?d5, hs, by omega⟩)
          case' d3 => fail "M.if"
          case d4 =>
            subst j1
            rw [← h1]; simp
          case d5 => exact Nat.mul_pos hf (Nat.pow_pos hs)
        · have bss : (s * s) ≤ b ^ e := le_of_mul' (f := f * s ^ (j % 2)) (s := s * s) (j := j / 2) (Nat.mul_pos hf (Nat.pow_pos hs)) (Nat.mul_pos hs hs) h0 (by rw [Nat.mul_assoc, Nat.mul_comm (s ^ (j % 2)), pow_half h0, h1])
          refine' Xs_ifT ?f1 (Xs_assign (b := .fz (nV w (s * s))) (Ev_callDef (k := 38) ?f2 ?f3 hm (mul_c (n := n) hw (by omega) (by omega))) ?f4 (Xs_nil (Xs_nil ⟨_, j / 2, lt, List.Sublist.refl _, f * s ^ (j % 2), s * s, rfl, ?f5, ?f6, ?f7, by omega⟩)))
          case' f1 => fail "M.if"
          case f2 => fail "M.mem"
          case' f3 => fail "M.evs"
          case f4 => fail "M.sto"
          case f5 => rw [Nat.mul_assoc, Nat.mul_comm (s ^ (j % 2)), pow_half h0, h1]
          case f6 => exact Nat.mul_pos hf (Nat.pow_pos hs)
          case f7 => exact Nat.mul_pos hs hs
  · obtain ⟨z, rfl⟩ := h
    refine Xs_return ?_
    fail "M.ev"
end
section
variable {g : Gl} {n : Nat}

abbrev prV (p : Nat × Nat) : V := .tuple [.int (p.1 : Nat), .int (p.2 : Nat)]
def prodP : List (Nat × Nat) → Nat
  | [] => 1
  | p :: l => p.1 ^ p.2 * prodP l
theorem prodP_append : ∀ a b, prodP (a ++ b) = prodP a * prodP b
  | [], b => by simp [prodP]
  | p :: a, b => by simp only [List.cons_append, prodP, prodP_append a b, Nat.mul_assoc]
theorem prodP_pos : ∀ {l : List (Nat × Nat)}, (∀ p ∈ l, 1 ≤ p.1) → 1 ≤ prodP l
  | [], _ => Nat.le_refl _
  | p :: l, h => Nat.mul_pos (Nat.pow_pos (h p (.head _))) (prodP_pos fun q hq => h q (.tail _ hq))

theorem prod_body {w k : Nat} {m : Value} {ps : List (Nat × Nat)} (hw : 1 ≤ w ∧ w ≤ 9) (hm : IsDef g 38 m) (hk : 3 ≤ k) (hl : ps.length ≤ 100) (hp : ∀ p ∈ ps, 1 ≤ p.1 ∧ p.1 < 1000 ∧ p.2 ≠ 0 ∧ p.2 < 1000) (hz : prodP ps < 2 ^ 58)
    (rec : 2 ≤ ps.length → FnN g k 17 [.list ((ps.take (ps.length / 2)).map prV), .int (w : Nat), .raw m] (nV w (prodP (ps.take (ps.length / 2)))) ∧ FnN g k 17 [.list ((ps.drop (ps.length / 2)).map prV), .int (w : Nat), .raw m] (nV w (prodP (ps.drop (ps.length / 2))))) :
    FnN g (k + 1) 17 [.list (ps.map prV), .int (w : Nat), .raw m] (nV w (prodP ps)) := by
  refine FnN_of (names := ["pairs", "w", "mul"]) (by decide) rfl (by decide) (by decide +kernel) (by intro pm code doc vals h; obtain ⟨v1, v2, v3, rfl⟩ := len3 h; rfl) rfl rfl rfl (by decide +kernel) (Xs.ex (P := fun _ => True) ?_) .ret
  conv in (dAt 17).body => whnf
  conv in (dAt 17).scope.names => whnf
  simp only [bindV, List.zip_cons_cons, List.map_cons, List.zip_nil_left, List.map_nil]
  have ln : (ps.map prV).length = ps.length := List.length_map ..
  by_cases h0 : ps.length = 0
  · have e : ps = [] := List.length_eq_zero_iff.mp h0
    have e1 : nV w (prodP ps) = .list [.int 1] := by rw [e, prodP, nV, dig_one hw.1]; rfl
    rw [e1]
    refine' Xs_ifRet (Tr.of (Tr_cmp (Ev_lenName ?a1 ln (by omega)) Ev_int (VCmp.int cmp_eq)) ?a2) (Xs_return (EvO_list (EvF_cons Ev_int EvF_nil)).fz)
    case a1 => fail "M.mem"
    case a2 => fail "M.bool"
  · refine' Xs_skip (Tr.of (Tr_cmp (Ev_lenName ?b1 ln (by omega)) Ev_int (VCmp.int cmp_eq)) ?b2) ?_
    case b1 => fail "M.mem"
    case b2 => fail "M.bool"
    by_cases h1 : ps.length = 1
    · obtain ⟨p, rfl⟩ := List.length_eq_one_iff.mp h1
      obtain ⟨q1, q2, q3, q4⟩ := hp p (.head _)
      have e : prodP [p] = p.1 ^ p.2 := by simp [prodP]
      rw [e] at hz ⊢
      refine' Xs_ifRet (Tr.of (Tr_cmp (Ev_lenName ?c1 ln (by omega)) Ev_int (VCmp.int cmp_eq)) ?c2) (Xs_return (Ev_callN (k := 16) (EvF_cons (Ev_itemT (Ev_item (xs := [p].map prV) ?c3 Ev_int (by decide) (by decide) rfl) Ev_int (by decide) (by decide) rfl) (EvF_cons (Ev_itemT (Ev_item (xs := [p].map prV) ?c4 Ev_int (by decide) (by decide) rfl) Ev_int (by decide) (by decide) rfl) ?c5)) ((pow_c (n := 0) hw hm q1 q3 hz (by omega) q4).less (by omega))))
      case c1 => fail "M.mem"
      case c2 => fail "M.bool"
      case' c3 => fail "M.ev"
      case' c4 => fail "M.ev"
      case' c5 => fail "M.evs"
    · refine' Xs_skip (Tr.of (Tr_cmp (Ev_lenName ?d1 ln (by omega)) Ev_int (VCmp.int cmp_eq)) ?d2) ?_
      case d1 => fail "M.mem"
      case d2 => fail "M.bool"
      obtain ⟨r1, r2⟩ := rec (by omega)
      refine' Xs_assign (b := .fz (.int ((ps.length / 2 : Nat) : Int))) (Ev.ofInt (Ev_binop (a := ((ps.length : Nat) : Int)) (b := 2) (Ev_lenName ?e1 ln (by omega)) Ev_int (op_div (by decide) (noPylong (by decide)))) (fdiv_nat (a := ps.length) (b := 2))) ?e2 ?_
      case e1 => fail "M.mem"
      case e2 => fail "M.sto"
      have pp : prodP (ps.take (ps.length / 2)) * prodP (ps.drop (ps.length / 2)) = prodP ps := by rw [← prodP_append, List.take_append_drop]
      have p1 := prodP_pos (l := ps.take (ps.length / 2)) fun p hq => (hp p (List.mem_of_mem_take hq)).1
      have p2 := prodP_pos (l := ps.drop (ps.length / 2)) fun p hq => (hp p (List.mem_of_mem_drop hq)).1
      have z1 : prodP (ps.take (ps.length / 2)) ≤ prodP ps := by rw [← pp]; exact Nat.le_mul_of_pos_right _ p2
      have z2 : prodP (ps.drop (ps.length / 2)) ≤ prodP ps := by rw [← pp]; exact Nat.le_mul_of_pos_left _ p1
      rw [← pp] at hz ⊢
      obtain ⟨k', rfl⟩ : ∃ k', k = k' + 2 := ⟨k - 2, by omega⟩
      refine' Xs_return (Ev_callDef (k := 38) ?f1 (EvF_cons (Ev_callN (k := 17) (EvF_cons ((EvO_to (k := ps.length / 2) ?f2 ?f3 ?f4).of (List.map_take ..).symm).fz ?f5) r1) (EvF_cons (Ev_callN (k := 17) (EvF_cons ((EvO_from (k := ps.length / 2) ?f6 ?f7 ?f8).of (List.map_drop ..).symm).fz ?f9) r2) ?f10)) hm (mul_c (n := k') hw (by omega) (by omega)))
      case f1 => fail "M.mem"
      case' f2 => fail "M.ev"
      case' f3 => fail "M.ev"
      case f4 => rw [ln]; omega
      case' f5 => fail "M.evs"
      case' f6 => fail "M.ev"
      case' f7 => fail "M.ev"
      case f8 => rw [ln]; omega
      case' f9 => fail "M.evs"
      case' f10 => fail "M.evs"
theorem prod_c {w : Nat} {m : Value} (hw : 1 ≤ w ∧ w ≤ 9) (hm : IsDef g 38 m) : ∀ (d : Nat) (ps : List (Nat × Nat)), ps.length ≤ 2 ^ d → ps.length ≤ 100 → (∀ p ∈ ps, 1 ≤ p.1 ∧ p.1 < 1000 ∧ p.2 ≠ 0 ∧ p.2 < 1000) → prodP ps < 2 ^ 58 →
    FnN g (4 + d) 17 [.list (ps.map prV), .int (w : Nat), .raw m] (nV w (prodP ps))
  | 0, ps, h1, h2, h3, h4 => prod_body (k := 3) hw hm (Nat.le_refl _) h2 h3 h4 fun q => by simp at h1; omega
  | d + 1, ps, h1, h2, h3, h4 => by
    rw [Nat.pow_succ] at h1
    refine prod_body (k := 4 + d) hw hm (by omega) h2 h3 h4 fun q => ?_
    have pp : prodP (ps.take (ps.length / 2)) * prodP (ps.drop (ps.length / 2)) = prodP ps := by rw [← prodP_append, List.take_append_drop]
    have p1 := prodP_pos (l := ps.take (ps.length / 2)) fun p hq => (h3 p (List.mem_of_mem_take hq)).1
    have p2 := prodP_pos (l := ps.drop (ps.length / 2)) fun p hq => (h3 p (List.mem_of_mem_drop hq)).1
    have z1 : prodP (ps.take (ps.length / 2)) ≤ prodP ps := by rw [← pp]; exact Nat.le_mul_of_pos_right _ p2
    have z2 : prodP (ps.drop (ps.length / 2)) ≤ prodP ps := by rw [← pp]; exact Nat.le_mul_of_pos_left _ p1
    exact ⟨prod_c hw hm d _ (by rw [List.length_take]; omega) (by rw [List.length_take]; omega) (fun p hq => h3 p (List.mem_of_mem_take hq)) (by omega),
      prod_c hw hm d _ (by rw [List.length_drop]; omega) (by rw [List.length_drop]; omega) (fun p hq => h3 p (List.mem_of_mem_drop hq)) (by omega)⟩
end
section
variable {g : Gl} {n : Nat}

def manyP (a k p : Nat) : Int := (fexp p a a : Nat) - (fexp p k k : Nat) - (fexp p (a - k) (a - k) : Nat)
def pairsP (a k : Nat) (ps : List Nat) : List (Nat × Nat) := ps.filterMap fun p => if 0 < manyP a k p then some (p, (manyP a k p).toNat) else none
theorem pairsP_take {a k i : Nat} {ps : List Nat} {p : Nat} (h : ps[i]? = some p) : pairsP a k (ps.take (i + 1)) = pairsP a k (ps.take i) ++ (if 0 < manyP a k p then [(p, (manyP a k p).toNat)] else []) := by
  rw [List.take_add_one, h]
  unfold pairsP
  rw [List.filterMap_append]
  by_cases q : 0 < manyP a k p
  · simp only [Option.toList_some, List.filterMap_cons, List.filterMap_nil, if_pos q]
  · simp only [Option.toList_some, List.filterMap_cons, List.filterMap_nil, if_neg q]
theorem binom_c {w a k c : Nat} {m : Value} (hw : 1 ≤ w ∧ w ≤ 9) (hm : IsDef g 38 m) (ha : a ≤ 50) (hk : k ≤ a) (h1 : ∀ p ∈ (sieveS a (a + 1 - 2)).2, 2 ≤ p ∧ p < 1000)
    (h2 : ∀ p ∈ pairsP a k (sieveS a (a + 1 - 2)).2, 1 ≤ p.1 ∧ p.1 < 1000 ∧ p.2 ≠ 0 ∧ p.2 < 1000) (h3 : (pairsP a k (sieveS a (a + 1 - 2)).2).length ≤ 16) (h4 : prodP (pairsP a k (sieveS a (a + 1 - 2)).2) = c) (hc : c < 2 ^ 58) :
    FnN g (n + 9) 19 [.int (a : Nat), .int (k : Nat), .int (w : Nat), .raw m] (nV w c) := by
  refine FnN_of (names := ["n", "k", "w", "mul"]) (by decide) rfl (by decide) (by decide +kernel) (by intro pm code doc vals h; obtain ⟨v1, v2, v3, v4, rfl⟩ := len4 h; rfl) rfl rfl rfl (by decide +kernel) (Xs.ex (P := fun _ => True) ?_) .ret
  conv in (dAt 19).body => whnf
  conv in (dAt 19).scope.names => whnf
  simp only [bindV, List.zip_cons_cons, List.map_cons, List.zip_nil_left, List.map_nil]
  refine' Xs_cons (Ex_exprNone (Ev_callN (k := 15) ?a1 ((need_c (n := 0) (a := a)).less (by omega)))) (Xs_cons (Ex_exprNone (Ev_callN (k := 15) ?a2 ((need_c (n := 0) (a := k)).less (by omega)))) ?_)
  case' a1 => fail "M.evs"
  case' a2 => fail "M.evs"
  refine Xs_skip ?_ ?_
  · fail "M.if"
  refine' Xs_assign (b := .own (([] : List (Nat × Nat)).map prV)) (EvO_list EvF_nil).ev ?b1 ?_
  case b1 => fail "M.sto"
  have lS := sieveS_cnt (m := a) (a + 1 - 2)
  have sv := (sieve_c (g := g) (n := 0) (m := a) (by omega)).less (n := n + 8) (by omega)
  generalize (sieveS a (a + 1 - 2)).2 = ps at *
  refine' Xs_for (fun i r => i ≤ ps.length ∧ r = ([("pairs", .own ((pairsP a k (ps.take i)).map prV)), ("n", .fz (.int (a : Nat))), ("k", .fz (.int (k : Nat))), ("w", .fz (.int (w : Nat))), ("mul", .fz (.raw m))] : Rh))
    (EvIt_list (xs := (ps.map fun i => ((i : Nat) : Int)).map V.int) (Ev_callN (k := 14) ?c1 sv)) .name (fun i v r hv hp => ?_) ⟨Nat.zero_le _, rfl⟩ (fun r hr => ?_)
  case' c1 => fail "M.evs"
  · rw [List.map_map, List.getElem?_map, Option.map_eq_some_iff] at hv
    obtain ⟨p, hp0, rfl⟩ := hv
    obtain ⟨_, rfl⟩ := hp
    have hi := (List.getElem?_eq_some_iff.mp hp0).1
    obtain ⟨p2, p3⟩ := h1 p (List.mem_of_getElem? hp0)
    have st := pairsP_take (a := a) (k := k) hp0
    refine ⟨_, .name (Sto.new (by fail "M.new")) rfl, ?_⟩
    show Xs g _ _ ([("prime", .fz (.int (p : Nat))), ("pairs", .own ((pairsP a k (ps.take i)).map prV)), ("n", .fz (.int (a : Nat))), ("k", .fz (.int (k : Nat))), ("w", .fz (.int (w : Nat))), ("mul", .fz (.raw m))] : Rh) _ _ _
    have ll : (pairsP a k (ps.take i)).length ≤ 100 := by
      have := List.length_filterMap_le (fun p => if 0 < manyP a k p then some (p, (manyP a k p).toNat) else none) (ps.take i)
      have l2 : (ps.take i).length ≤ ps.length := by rw [List.length_take]; omega
      unfold pairsP; omega
    rw [st]
    generalize pairsP a k (ps.take i) = L at *
    refine' Xs_assign (b := .fz (.int (manyP a k p))) (Ev.ofInt (Ev_binop (Ev_binop (Ev_callN (k := 18) ?d1 ((fexp_c (n := 0) (a := a) (p := p) p2 p3 (by omega)).less (by omega))) (Ev_callN (k := 18) ?d2 ((fexp_c (n := 0) (a := k) (p := p) p2 p3 (by omega)).less (by omega))) op_sub) (Ev_callN (k := 18) (EvF_cons (Ev.ofInt (Ev_binop (a := ((a : Nat) : Int)) (b := ((k : Nat) : Int)) ?d3 ?d4 op_sub) ?d5) ?d6) ((fexp_c (n := 0) (a := a - k) (p := p) p2 p3 (by omega)).less (by omega))) op_sub) rfl) ?d7 ?_
    case' d1 => fail "M.evs"
    case' d2 => fail "M.evs"
    case' d3 => fail "M.ev"
    case' d4 => fail "M.ev"
    case d5 => omega
    case' d6 => fail "M.evs"
    case d7 => fail "M.sto"
    refine' Xs_mid (ρ' := ([("many", .fz (.int (manyP a k p))), ("prime", .fz (.int (p : Nat))), ("pairs", .own ((L ++ (if 0 < manyP a k p then [(p, (manyP a k p).toNat)] else [])).map prV)), ("n", .fz (.int (a : Nat))), ("k", .fz (.int (k : Nat))), ("w", .fz (.int (w : Nat))), ("mul", .fz (.raw m))] : Rh)) ?e1 (fun hc => ?_) (fun hc => ?_) (Xs_nil ⟨_, drop2, hi, rfl⟩)
    case' e1 => fail "M.tr"
    · have hh : 0 < manyP a k p := by have := of_decide_eq_true hc; omega
      rw [if_pos hh]
      refine' Xs_appendV (y := prV (p, (manyP a k p).toNat)) ?f1 (Ev_tuple (EvF_cons ?f2 (EvF_cons (Ev.ofInt (c := manyP a k p) ?f3 ?f4) EvF_nil))) ?f5 ?f6 (Xs_nil ?f7)
      case f1 => fail "M.mem"
      case' f2 => fail "M.ev"
      case' f3 => fail "M.ev"
      case f4 => show manyP a k p = ((manyP a k p).toNat : Int); omega
      case f5 => fail "M.put"
      case f6 => rw [List.length_map]; omega
      case f7 => rw [List.map_append]; rfl
    · have hh : ¬ 0 < manyP a k p := by have := of_decide_eq_false hc; omega
      rw [if_neg hh, List.append_nil]
  · rw [List.length_map, List.length_map] at hr
    obtain ⟨_, rfl⟩ := hr
    rw [List.take_length]
    refine' Xs_freeze (x := "pairs") ?g1 ?g2 (Xs_return (Ev_callN (k := 17) ?g3 (h4 ▸ (prod_c hw hm 4 (pairsP a k ps) h3 (by omega) h2 (by omega)).less (by omega))))
    case g1 => fail "M.mem"
    case g2 => fail "M.put"
    case' g3 => fail "M.evs"
theorem binom0_c {w a k : Nat} {m : Value} (hk : a < k) :
    FnN g (n + 9) 19 [.int (a : Nat), .int (k : Nat), .int (w : Nat), .raw m] (nV w 0) := by
  refine FnN_of (names := ["n", "k", "w", "mul"]) (by decide) rfl (by decide) (by decide +kernel) (by intro pm code doc vals h; obtain ⟨v1, v2, v3, v4, rfl⟩ := len4 h; rfl) rfl rfl rfl (by decide +kernel) (Xs.ex (P := fun _ => True) ?_) .ret
  conv in (dAt 19).body => whnf
  conv in (dAt 19).scope.names => whnf
  simp only [bindV, List.zip_cons_cons, List.map_cons, List.zip_nil_left, List.map_nil]
  refine' Xs_cons (Ex_exprNone (Ev_callN (k := 15) ?a1 ((need_c (n := 0) (a := a)).less (by omega)))) (Xs_cons (Ex_exprNone (Ev_callN (k := 15) ?a2 ((need_c (n := 0) (a := k)).less (by omega)))) ?_)
  case' a1 => fail "M.evs"
  case' a2 => fail "M.evs"
  refine Xs_ifRet ?_ (Xs_return (EvO_list EvF_nil).fz)
  fail "M.if"
theorem cat_of {w j x y : Nat} {m : Value} (hw : 1 ≤ w ∧ w ≤ 9) (h1 : FnN g (n + 9) 19 [.int (2 * j : Nat), .int (j : Nat), .int (w : Nat), .raw m] (nV w x)) (h2 : FnN g (n + 9) 19 [.int (2 * j : Nat), .int (j + 1 : Nat), .int (w : Nat), .raw m] (nV w y)) (hx : x < 2 ^ 60) (hy : y ≤ x) :
    FnN g (n + 10) 20 [.int (j : Nat), .int (w : Nat), .raw m] (nV w (x - y)) := by
  refine FnN_of (names := ["n", "w", "mul"]) (by decide) rfl (by decide) (by decide +kernel) (by intro pm code doc vals h; obtain ⟨v1, v2, v3, rfl⟩ := len3 h; rfl) rfl rfl rfl (by decide +kernel) (Xs.ex (P := fun _ => True) ?_) .ret
  conv in (dAt 20).body => whnf
  conv in (dAt 20).scope.names => whnf
  simp only [bindV, List.zip_cons_cons, List.map_cons, List.zip_nil_left, List.map_nil]
  refine' Xs_cons (Ex_exprNone (Ev_callN (k := 15) ?a1 ((need_c (n := 0) (a := j)).less (by omega)))) ?_
  case' a1 => fail "M.evs"
  have m2 : IntMulOk 2 ((j : Nat) : Int) := mulok (by omega)
  refine' Xs_return (Ev_callN (k := 8) (EvF_cons (Ev_callN (k := 19) (EvF_cons (Ev.ofInt (Ev_binop (b := ((j : Nat) : Int)) Ev_int ?b1 (op_mul m2)) ?b2) ?b3) h1) (EvF_cons (Ev_callN (k := 19) (EvF_cons (Ev.ofInt (Ev_binop (b := ((j : Nat) : Int)) Ev_int ?c1 (op_mul m2)) ?c2) (EvF_cons (Ev.ofInt (Ev_binop (a := ((j : Nat) : Int)) ?c3 Ev_int op_add) ?c4) ?c5)) h2) ?b4)) ((sub_c (n := 0) hw hx hy).less (by omega)))
  case' b1 => fail "M.ev"
  case b2 => omega
  case' b3 => fail "M.evs"
  case' b4 => fail "M.evs"
  case' c1 => fail "M.ev"
  case c2 => omega
  case' c3 => fail "M.ev"
  case c4 => omega
  case' c5 => fail "M.evs"
def catN : List Nat := [1, 1, 2, 5, 14]
theorem cat_c {w : Nat} {m : Value} (hw : 1 ≤ w ∧ w ≤ 9) (hm : IsDef g 38 m) : ∀ j, j < 5 → FnN g (n + 10) 20 [.int (j : Nat), .int (w : Nat), .raw m] (nV w (catN.getD j 0))
  | 0, _ => cat_of (j := 0) (x := 1) (y := 0) hw (binom_c hw hm (by decide) (by decide) (by decide) (by decide) (by decide) (by decide) (by decide)) (binom0_c (by decide)) (by decide) (by decide)
  | 1, _ => cat_of (j := 1) (x := 2) (y := 1) hw (binom_c hw hm (by decide) (by decide) (by decide) (by decide) (by decide) (by decide) (by decide)) (binom_c hw hm (by decide) (by decide) (by decide) (by decide) (by decide) (by decide) (by decide)) (by decide) (by decide)
  | 2, _ => cat_of (j := 2) (x := 6) (y := 4) hw (binom_c hw hm (by decide) (by decide) (by decide) (by decide) (by decide) (by decide) (by decide)) (binom_c hw hm (by decide) (by decide) (by decide) (by decide) (by decide) (by decide) (by decide)) (by decide) (by decide)
  | 3, _ => cat_of (j := 3) (x := 20) (y := 15) hw (binom_c hw hm (by decide) (by decide) (by decide +kernel) (by decide +kernel) (by decide +kernel) (by decide +kernel) (by decide)) (binom_c hw hm (by decide) (by decide) (by decide +kernel) (by decide +kernel) (by decide +kernel) (by decide +kernel) (by decide)) (by decide) (by decide)
  | 4, _ => cat_of (j := 4) (x := 70) (y := 56) hw (binom_c hw hm (by decide) (by decide) (by decide +kernel) (by decide +kernel) (by decide +kernel) (by decide +kernel) (by decide)) (binom_c hw hm (by decide) (by decide) (by decide +kernel) (by decide +kernel) (by decide +kernel) (by decide +kernel) (by decide)) (by decide) (by decide)
end
section
variable {g : Gl} {n : Nat}

def nextR (ps : List Int) (k many : Nat) : Int := (if k < ps.length then ps.getD k 0 else ((9 * (k + 1) + (k + 1) / 3 + 4 : Nat) : Int)).fmod (many : Nat)
theorem next_c {k many : Nat} {ps : List Int} {a : Addr} (hk : k ≤ 100) (hp : ps.length ≤ 1000) (hm : 0 < many) (ha : g.mg (dAt 46).name = some (.ref a)) : NextC g (n + 1) (.ref a) (many : Nat) (k : Nat) ps (nextR ps k many) := by
  refine' NextC_of rfl ?h1 ?h2 ?h3 (ha := ha)
  all_goals conv in (dAt 46).scope.names => whnf
  case h1 => exact Ev_binop (Ev_itemOwn (.head _) Ev_int (by decide) (by decide) rfl) Ev_int op_add
  case h2 => exact Ev_int
  case h3 =>
    refine Xs.ex (P := fun _ => True) ?_
    have e1 : ((k : Nat) : Int) + 1 = ((k + 1 : Nat) : Int) := rfl
    rw [e1]
    have nf : ((many : Nat) : Int) ≠ 0 := by omega
    unfold nextR
    by_cases h : k < ps.length
    · rw [if_pos h]
      refine' Xs_ifRet (Tr.of (Tr_cmp (Ev_item (xs := [.int ((k + 1 : Nat) : Int), .list (ps.map .int)]) ?a1 Ev_int (by decide) (by decide) rfl) (Ev.ofInt (Ev_call (Ev_builtin rfl (by decide)) (EvF_cons (Ev_item (xs := [.int ((k + 1 : Nat) : Int), .list (ps.map .int)]) ?a2 Ev_int (by decide) (by decide) rfl) EvF_nil) .builtin (Fn_len ?a3)) ?a4) (VCmp.int cmp_le)) ?a5) (Xs_return (Ev_binop (Ev.ofInt (Ev_itemI (xs := ps) (k := ((k : Nat) : Int)) (Ev_item (xs := [.int ((k + 1 : Nat) : Int), .list (ps.map .int)]) ?a6 Ev_int (by decide) (by decide) rfl) (Ev.ofInt (Ev_binop (Ev_item (xs := [.int ((k + 1 : Nat) : Int), .list (ps.map .int)]) ?a7 Ev_int (by decide) (by decide) rfl) Ev_int op_sub) ?a8) ?a9) ?b1) ?b2 (op_mod nf)))
      case' a1 => fail "M.ev"
      case' a2 => fail "M.ev"
      case a3 => rw [List.length_map]; omega
      case a4 => rw [List.length_map]
      case a5 => exact decide_eq_true (by omega)
      case' a6 => fail "M.ev"
      case' a7 => fail "M.ev"
      case a8 => omega
      case a9 => omega
      case b1 => rw [Int.toNat_natCast]
      case' b2 => fail "M.ev"
    · rw [if_neg h]
      refine' Xs_skip (Tr.of (Tr_cmp (Ev_item (xs := [.int ((k + 1 : Nat) : Int), .list (ps.map .int)]) ?f1 Ev_int (by decide) (by decide) rfl) (Ev.ofInt (Ev_call (Ev_builtin rfl (by decide)) (EvF_cons (Ev_item (xs := [.int ((k + 1 : Nat) : Int), .list (ps.map .int)]) ?f2 Ev_int (by decide) (by decide) rfl) EvF_nil) .builtin (Fn_len ?f3)) ?f4) (VCmp.int cmp_le)) ?f5) ?c1
      case' f1 => fail "M.ev"
      case' f2 => fail "M.ev"
      case f3 => rw [List.length_map]; omega
      case f4 => rw [List.length_map]
      case f5 => exact decide_eq_false (by omega)
      case' c1 =>
        have m9 : IntMulOk 9 ((k + 1 : Nat) : Int) := mulok (by omega)
        have ed : ((k + 1 : Nat) : Int).fdiv 3 = (((k + 1) / 3 : Nat) : Int) := fdiv_nat (a := k + 1) (b := 3)
        refine' Xs_return (Ev_binop (Ev.ofInt (Ev_binop (Ev_binop (Ev_binop Ev_int (Ev_item (xs := [.int ((k + 1 : Nat) : Int), .list (ps.map .int)]) ?d1 Ev_int (by decide) (by decide) rfl) (op_mul m9)) (Ev.ofInt (Ev_binop (a := ((k + 1 : Nat) : Int)) (Ev_item (xs := [.int ((k + 1 : Nat) : Int), .list (ps.map .int)]) ?d2 Ev_int (by decide) (by decide) rfl) Ev_int (op_div (by decide) (noPylong (by decide)))) ed) op_add) Ev_int op_add) ?d3) ?d4 (op_mod nf))
        case' d1 => fail "M.ev"
        case' d2 => fail "M.ev"
        case d3 => omega
        case' d4 => fail "M.ev"
end
section
variable {g : Gl} {n : Nat}

theorem defVal (gok : g.Ok) (k : Nat) (hk : k < 53 ∧ k ∉ [0,1,2,3,13,21,29,30,31,37,45] := by decide) : ∃ a, g.mg (dAt k).name = some (.ref a) := by
  obtain ⟨a, _, _, _, _, h, _⟩ := gok.fn _ (dAt_mem hk.1 hk.2)
  exact ⟨a, h⟩
def hank (row : List Int) (N : Nat) : List (List Int) := (List.range N).map fun i => (row.drop i).take N
theorem grids_c {w : Nat} {row due : List Int} (gok : g.Ok) (hw : 1 ≤ w ∧ w ≤ 9) (h1 : due.length ≤ 20) (h2 : 2 * due.length ≤ row.length + 1) (h3 : row.length ≤ 100) (hb : ∀ i, (due.getD i 0).natAbs < 2 ^ 60)
    (hT : ∀ N, 1 ≤ N → N ≤ due.length → ∃ k Ms, Trace N k Ms ∧ Ms 0 = hank row N ∧ (if k < N then 0 else ent (Ms k) (N - 1) (N - 1)) = due.getD (N - 1) 0) :
    FnN g (n + 11) 51 [rowV w row, lV due, .int (w : Nat)] (.bool true) := by
  intro a ha
  obtain ⟨am, hm⟩ := defVal gok 38
  obtain ⟨ad, hd⟩ := defVal gok 44
  suffices hbody : ∃ ρ', Exs g (n + 10) (dAt 51).scope.names (bindV ["row", "due", "w"] [rowV w row, lV due, .int (w : Nat)]) (dAt 51).body (.ret (.fz (.bool true))) ρ' by
    obtain ⟨ρ', hbody⟩ := hbody
    exact Fn_ofC (names := ["row", "due", "w"]) (dAt_mem (by decide) (by decide)) ha (by intro pm code doc vals h; obtain ⟨v1, v2, v3, rfl⟩ := len3 h; rfl) rfl (by decide) (by decide +kernel) (fun L => (show (["size", "row"] : List Str).Nodup by decide)) hbody .ret rfl rfl rfl
  refine Xs.ex (P := fun _ => True) ?_
  conv in (dAt 51).body => whnf
  conv in (dAt 51).scope.names => whnf
  simp only [bindV, List.zip_cons_cons, List.map_cons, List.zip_nil_left, List.map_nil]
  have ln : (due.map V.int).length = due.length := List.length_map ..
  refine' Xs_for (fun i r => i ≤ due.length ∧ r = ([("row", .fz (rowV w row)), ("due", .fz (lV due)), ("w", .fz (.int (w : Nat)))] : Rh))
    (EvIt_up (k := 1) (m := due.length + 1) Ev_int (Ev.ofInt (Ev_binop (a := ((due.length : Nat) : Int)) (Ev_lenName ?a1 ln (by omega)) Ev_int op_add) rfl) (by omega)) .name (fun i v r hv hp => ?_) ⟨Nat.zero_le _, rfl⟩ (fun r hr => ?_)
  case a1 => fail "M.mem"
  · obtain ⟨hi, rfl⟩ := rngV_get hv
    obtain ⟨_, rfl⟩ := hp
    refine ⟨_, .name (Sto.new (by fail "M.new")) rfl, ?_⟩
    obtain ⟨k, Ms, T, hM, hE⟩ := hT (1 + i) (by omega) (by omega)
    generalize hN : 1 + i = N at *
    have hd1 : due.getD (N - 1) 0 = due.getD i 0 := by rw [show N - 1 = i by omega]
    have hbi := hb i
    rw [hd1] at hE
    refine' Xs_assignComp1 (ρc := [("row", .fz (rowV w row)), ("size", .fz (.int (N : Nat)))]) (ys := (hank row N).map (rowV w)) (EvIt_upTo (m := N) ?b1 (by omega)) (.cons ?b2 ?b3 rfl (show ("row" : Str) ∉ (["size"] : List Str) by decide) (.cons ?b4 ?b5 rfl (fun q => nomatch q) Sees.none)) (CompOk.of rfl rfl rfl rfl rfl rfl) ?b6 ?b7 (by rw [rngV_len]; omega) (fun j v y q1 q2 => ?_) ?b8 ?_
    case' b1 => fail "M.ev"
    case b2 => fail "M.mem"
    case b3 => fail "M.mem"
    case b4 => fail "M.mem"
    case b5 => fail "M.mem"
    case b6 => fail "M.new"
    case b7 => rw [rngV_len, List.length_map, hank, List.length_map, List.length_range]; omega
    case b8 => fail "M.sto"
    · obtain ⟨hj, rfl⟩ := rngV_get q1
      have hy : y = rowV w ((row.drop j).take N) := by
        rw [hank, List.map_map, List.getElem?_map, List.getElem?_range (by omega)] at q2
        simp only [Option.map_some, Option.some.injEq] at q2
        exact q2.symm
      subst hy
      have ej : ((row.map (sV w)).drop (0 + j)).take (0 + j + N - (0 + j)) = ((row.drop j).take N).map (sV w) := by
        rw [Nat.zero_add, Nat.add_sub_cancel_left, List.map_take, List.map_drop]
      refine' ((EvO_part (i := 0 + j) (k := 0 + j + N) ?c1 ?c2 (Ev.ofInt (Ev_binop (a := ((0 + j : Nat) : Int)) (b := ((N : Nat) : Int)) ?c3 ?c4 op_add) ?c5) ?c6).of ej).fz
      case' c1 => fail "M.ev"
      case' c2 => fail "M.ev"
      case' c3 => fail "M.ev"
      case' c4 => fail "M.ev"
      case c5 => omega
      case c6 => rw [List.length_map]; omega
    · have dt := det_c (g := g) (n := n + 1) (m := .ref am) (d := .ref ad) hw ⟨am, rfl, hm⟩ ⟨ad, rfl, hd⟩ T (by omega)
      rw [hM, hE] at dt
      refine' Xs_freeze (x := "grid") ?d1 ?d2 (Xs_skip (Tr.of (Tr_cmp (Ev_callN (k := 36) (EvF_cons ?d3 (EvF_cons ?d4 (EvF_cons (Ev_fun hm) (EvF_cons (Ev_fun hd) EvF_nil)))) dt)
        (Ev_callN (k := 48) (EvF_cons (Ev.ofInt (Ev_itemI (xs := due) (k := ((i : Nat) : Int)) ?d5 (Ev.ofInt (Ev_binop (a := ((N : Nat) : Int)) ?d6 Ev_int op_sub) ?d7) ?d8) ?d9) ?e1) ((lsigned_c (n := 0) hw hbi).less (by omega))) VCmp_neSg) ?e2) (Xs_nil ⟨_, drop2, by omega, rfl⟩))
      case d1 => fail "M.mem"
      case d2 => fail "M.put"
      case' d3 => fail "M.ev"
      case' d4 => fail "M.ev"
      case' d5 => fail "M.ev"
      case' d6 => fail "M.ev"
      case d7 => omega
      case d8 => omega
      case d9 => rw [Int.toNat_natCast]
      case' e1 => fail "M.evs"
      case e2 => simp
  · obtain ⟨_, rfl⟩ := hr
    exact Xs_return Ev_bool
end
section

theorem sum2 (b0 b1 b2 c1 c2 : Int) : sumW [b0, b1, b2] [c1, c2] 2 = b0 * b0 + c1 := by
  simp only [sumW, walkW, stepW, turnW, List.flatMap_cons, List.flatMap_nil, List.append_nil, Nat.reduceLT, Nat.reduceAdd, Nat.reduceSub, if_true, if_false, List.nil_append, List.cons_append, List.getD_cons_zero, List.getD_cons_succ, Nat.lt_irrefl, List.filter_cons, List.filter_nil, Nat.reduceBEq, List.map_cons, List.map_nil, List.sum_cons, List.sum_nil, reduceIte, Bool.false_eq_true]
  grind
theorem sum3 (b0 b1 b2 c1 c2 : Int) : sumW [b0, b1, b2] [c1, c2] 3 = b0 * (b0 * b0 + c1) + c1 * (b0 + b1) := by
  simp only [sumW, walkW, stepW, turnW, List.flatMap_cons, List.flatMap_nil, List.append_nil, Nat.reduceLT, Nat.reduceAdd, Nat.reduceSub, if_true, if_false, List.nil_append, List.cons_append, List.getD_cons_zero, List.getD_cons_succ, Nat.lt_irrefl, List.filter_cons, List.filter_nil, Nat.reduceBEq, List.map_cons, List.map_nil, List.sum_cons, List.sum_nil, reduceIte, Bool.false_eq_true]
  grind
theorem sum4 (b0 b1 b2 c1 c2 : Int) : sumW [b0, b1, b2] [c1, c2] 4 = (b0 * b0 + c1) * (b0 * b0 + c1) + c1 * ((b0 + b1) * (b0 + b1) + c2) := by
  simp only [sumW, walkW, stepW, turnW, List.flatMap_cons, List.flatMap_nil, List.append_nil, Nat.reduceLT, Nat.reduceAdd, Nat.reduceSub, if_true, if_false, List.nil_append, List.cons_append, List.getD_cons_zero, List.getD_cons_succ, Nat.lt_irrefl, List.filter_cons, List.filter_nil, Nat.reduceBEq, List.map_cons, List.map_nil, List.sum_cons, List.sum_nil, reduceIte, Bool.false_eq_true]
  grind
theorem sums_eq (b0 b1 b2 c1 c2 : Int) : (List.range 5).map (sumW [b0, b1, b2] [c1, c2]) = [1, b0, b0 * b0 + c1, b0 * (b0 * b0 + c1) + c1 * (b0 + b1), (b0 * b0 + c1) * (b0 * b0 + c1) + c1 * ((b0 + b1) * (b0 + b1) + c2)] := by
  have e0 : sumW [b0, b1, b2] [c1, c2] 0 = 1 := rfl
  have e1 : sumW [b0, b1, b2] [c1, c2] 1 = b0 := by
    show 1 * b0 + 0 = b0
    omega
  show [sumW [b0, b1, b2] [c1, c2] 0, sumW [b0, b1, b2] [c1, c2] 1, sumW [b0, b1, b2] [c1, c2] 2, sumW [b0, b1, b2] [c1, c2] 3, sumW [b0, b1, b2] [c1, c2] 4] = _
  rw [e0, e1, sum2, sum3, sum4]
end
section

/-- the matrices of one clearing, up to the last pivot -/
def trc (A B C : List (List Int)) (k c : Nat) : List (List Int) := match min c k with
  | 0 => A
  | 1 => B
  | _ => C
theorem Trace.mk3 {N k : Nat} {A B C : List (List Int)} (hN : 1 ≤ N) (h3 : N ≤ 3) (hk : k ≤ N)
    (size : ∀ M ∈ [A, B, C], M.length = N ∧ ∀ i, i < N → (M.getD i []).length = N) (bound : ∀ M ∈ [A, B, C], ∀ r ∈ M, ∀ x ∈ r, x.natAbs < 2 ^ 28)
    (s0 : 0 < k → B = stepTo 0 (N - 1) A) (s1 : 1 < k → C = stepTo 1 (N - 2) B) (s2 : 2 < k → C = stepTo 2 (N - 3) C)
    (p0 : 0 < k → ent A 0 0 ≠ 0) (p1 : 1 < k → ent B 1 1 ≠ 0) (p2 : 2 < k → ent C 2 2 ≠ 0)
    (one : ent B 0 0 = 1)
    (stuck : ∀ c, k ≤ c → c < N → ∀ i, k ≤ i → i < N → ent (trc A B C k k) i c = 0) : Trace N k (trc A B C k) where
  big := by omega
  size := fun c => by
    refine size _ ?_
    unfold trc
    split <;> simp
  bound := fun c i j => by
    have hm : trc A B C k c ∈ [A, B, C] := by unfold trc; split <;> simp
    by_cases hi : i < (trc A B C k c).length
    · by_cases hj : j < ((trc A B C k c).getD i []).length
      · refine bound _ hm ((trc A B C k c).getD i []) ?_ _ (List.mem_of_getElem? (get_of hj))
        rw [List.getD_eq_getElem?_getD, List.getElem?_eq_getElem hi]
        exact List.getElem_mem hi
      · show (((trc A B C k c).getD i []).getD j 0).natAbs < 2 ^ 28
        rw [List.getD_eq_getElem?_getD (l := (trc A B C k c).getD i []), List.getElem?_eq_none (by omega)]; decide
    · show (((trc A B C k c).getD i []).getD j 0).natAbs < 2 ^ 28
      rw [List.getD_eq_getElem?_getD (l := trc A B C k c), List.getElem?_eq_none (by omega)]
      simp
  kle := hk
  step := fun c hc => by
    match c, hc with
    | 0, hc =>
      have e0 : trc A B C k 0 = A := by unfold trc; rw [Nat.zero_min]; rfl
      have e1 : trc A B C k (0 + 1) = B := by unfold trc; rw [show min (0 + 1) k = 1 by omega]; rfl
      rw [e0, e1]; exact s0 hc
    | 1, hc =>
      have e0 : trc A B C k 1 = B := by unfold trc; rw [show min 1 k = 1 by omega]; rfl
      have e1 : trc A B C k (1 + 1) = C := by unfold trc; rw [show min (1 + 1) k = 2 by omega]; rfl
      rw [e0, e1]; exact s1 hc
    | 2, hc =>
      have e0 : trc A B C k 2 = C := by unfold trc; rw [show min 2 k = 2 by omega]; rfl
      have e1 : trc A B C k (2 + 1) = C := by unfold trc; rw [show min (2 + 1) k = 3 by omega]; rfl
      rw [e0, e1]; exact s2 hc
    | c + 3, hc => omega
  piv := fun c hc => by
    match c, hc with
    | 0, hc =>
      have e0 : trc A B C k 0 = A := by unfold trc; rw [Nat.zero_min]; rfl
      rw [e0]; exact p0 hc
    | 1, hc =>
      have e0 : trc A B C k 1 = B := by unfold trc; rw [show min 1 k = 1 by omega]; rfl
      rw [e0]; exact p1 hc
    | 2, hc =>
      have e0 : trc A B C k 2 = C := by unfold trc; rw [show min 2 k = 2 by omega]; rfl
      rw [e0]; exact p2 hc
    | c + 3, hc => omega
  stuck := stuck
  one := fun c hc hN' => by
    match c, hc with
    | 0, hc => rfl
    | 1, hc =>
      have e0 : trc A B C k 1 = B := by unfold trc; rw [show min 1 k = 1 by omega]; rfl
      show ent (trc A B C k 1) 0 0 = 1
      rw [e0]; exact one
    | c + 2, hc => omega

theorem hankT {s1 s2 s3 s4 c1 e f D : Int} (h1 : s2 - s1 * s1 = c1) (h2 : s3 - s1 * s2 = e) (h3 : s4 - s2 * s2 = f) (hD : f * c1 - e * e = D) (hz : c1 = 0 → e = 0 ∧ f = 0)
    (b : s1.natAbs < 2 ^ 20 ∧ s2.natAbs < 2 ^ 20 ∧ s3.natAbs < 2 ^ 20 ∧ s4.natAbs < 2 ^ 20 ∧ c1.natAbs < 2 ^ 20 ∧ e.natAbs < 2 ^ 20 ∧ f.natAbs < 2 ^ 20 ∧ D.natAbs < 2 ^ 20) :
    ∀ N, 1 ≤ N → N ≤ 3 → ∃ k Ms, Trace N k Ms ∧ Ms 0 = hank [1, s1, s2, s3, s4] N ∧ (if k < N then 0 else ent (Ms k) (N - 1) (N - 1)) = [1, c1, D].getD (N - 1) 0
  | 1, _, _ => by
    refine ⟨1, trc [[1]] [[1]] [[1]] 1, Trace.mk3 (by decide) (by decide) (by decide) (by decide) (by decide) (by decide) (by decide) (by decide) (by decide) (by decide) (by decide) (by decide) (fun c h _ i _ _ => by omega), rfl, rfl⟩
  | 2, _, _ => by
    have hB : [[1, s1], [0, c1]] = stepTo 0 (2 - 1) [[1, s1], [s1, s2]] := by
      show _ = [[1, s1], [s1 * 1 - s1 * 1, s2 * 1 - s1 * s1]]
      rw [← h1]; simp
    have sz : ∀ M ∈ [[[1, s1], [s1, s2]], [[1, s1], [0, c1]], [[1, s1], [0, c1]]], M.length = 2 ∧ ∀ i, i < 2 → (M.getD i []).length = 2 := by
      intro M hM
      simp only [List.mem_cons, List.not_mem_nil, or_false] at hM
      rcases hM with rfl | rfl | rfl <;> refine ⟨rfl, fun i hi => ?_⟩ <;> (match i, hi with | 0, _ => rfl | 1, _ => rfl)
    have bd : ∀ M ∈ [[[1, s1], [s1, s2]], [[1, s1], [0, c1]], [[1, s1], [0, c1]]], ∀ r ∈ M, ∀ x ∈ r, x.natAbs < 2 ^ 28 := by
      intro M hM r hr x hx
      simp only [List.mem_cons, List.not_mem_nil, or_false] at hM
      rcases hM with rfl | rfl | rfl <;> simp only [List.mem_cons, List.not_mem_nil, or_false] at hr <;> rcases hr with rfl | rfl <;> simp only [List.mem_cons, List.not_mem_nil, or_false] at hx <;> rcases hx with rfl | rfl <;> omega
    by_cases q : c1 = 0
    · subst q
      refine ⟨1, trc [[1, s1], [s1, s2]] [[1, s1], [0, 0]] [[1, s1], [0, 0]] 1, Trace.mk3 (by decide) (by decide) (by decide) sz bd (fun _ => hB) (fun h => by omega) (fun h => by omega) (fun _ => (show (1 : Int) ≠ 0 by decide)) (fun h => by omega) (fun h => by omega) rfl (fun c _ _ i _ _ => ?_), rfl, rfl⟩
      have hc : c = 1 := by omega
      have hi : i = 1 := by omega
      subst hc hi; rfl
    · exact ⟨2, trc [[1, s1], [s1, s2]] [[1, s1], [0, c1]] [[1, s1], [0, c1]] 2, Trace.mk3 (by decide) (by decide) (by decide) sz bd (fun _ => hB) (fun _ => by rw [stepTo_zero]) (fun h => by omega) (fun _ => (show (1 : Int) ≠ 0 by decide)) (fun _ => q) (fun h => by omega) rfl (fun c h _ i _ _ => by omega), rfl, rfl⟩
  | 3, _, _ => by
    have hB : [[1, s1, s2], [0, c1, e], [0, e, f]] = stepTo 0 (3 - 1) [[1, s1, s2], [s1, s2, s3], [s2, s3, s4]] := by
      show _ = [[1, s1, s2], [s1 * 1 - s1 * 1, s2 * 1 - s1 * s1, s3 * 1 - s1 * s2], [s2 * 1 - s2 * 1, s3 * 1 - s2 * s1, s4 * 1 - s2 * s2]]
      rw [Int.mul_comm s2 s1]
      simp only [Int.mul_one, Int.sub_self, h1, h2, h3]
    have hC : [[1, s1, s2], [0, c1, e], [0, 0, D]] = stepTo 1 (3 - 2) [[1, s1, s2], [0, c1, e], [0, e, f]] := by
      show _ = [[1, s1, s2], [0, c1, e], [0 * c1 - e * 0, e * c1 - e * c1, f * c1 - e * e]]
      simp only [Int.sub_self, Int.zero_mul, Int.mul_zero, hD]
    have sz : ∀ M ∈ [[[1, s1, s2], [s1, s2, s3], [s2, s3, s4]], [[1, s1, s2], [0, c1, e], [0, e, f]], [[1, s1, s2], [0, c1, e], [0, 0, D]]], M.length = 3 ∧ ∀ i, i < 3 → (M.getD i []).length = 3 := by
      intro M hM
      simp only [List.mem_cons, List.not_mem_nil, or_false] at hM
      rcases hM with rfl | rfl | rfl <;> refine ⟨rfl, fun i hi => ?_⟩ <;> (match i, hi with | 0, _ => rfl | 1, _ => rfl | 2, _ => rfl)
    have bd : ∀ M ∈ [[[1, s1, s2], [s1, s2, s3], [s2, s3, s4]], [[1, s1, s2], [0, c1, e], [0, e, f]], [[1, s1, s2], [0, c1, e], [0, 0, D]]], ∀ r ∈ M, ∀ x ∈ r, x.natAbs < 2 ^ 28 := by
      intro M hM r hr x hx
      simp only [List.mem_cons, List.not_mem_nil, or_false] at hM
      rcases hM with rfl | rfl | rfl <;> simp only [List.mem_cons, List.not_mem_nil, or_false] at hr <;> rcases hr with rfl | rfl | rfl <;> simp only [List.mem_cons, List.not_mem_nil, or_false] at hx <;> rcases hx with rfl | rfl | rfl <;> omega
    by_cases q : c1 = 0
    · obtain ⟨rfl, rfl⟩ := hz q
      subst q
      have hD0 : D = 0 := by rw [← hD]; rfl
      subst hD0
      refine ⟨1, _, Trace.mk3 (k := 1) (by decide) (by decide) (by decide) sz bd (fun _ => hB) (fun h => by omega) (fun h => by omega) (fun _ => (show (1 : Int) ≠ 0 by decide)) (fun h => by omega) (fun h => by omega) rfl (fun c _ _ i _ _ => ?_), rfl, rfl⟩
      have hc : c = 1 ∨ c = 2 := by omega
      have hi : i = 1 ∨ i = 2 := by omega
      rcases hc with rfl | rfl <;> rcases hi with rfl | rfl <;> rfl
    · by_cases q2 : D = 0
      · subst q2
        refine ⟨2, _, Trace.mk3 (k := 2) (by decide) (by decide) (by decide) sz bd (fun _ => hB) (fun _ => hC) (fun h => by omega) (fun _ => (show (1 : Int) ≠ 0 by decide)) (fun _ => q) (fun h => by omega) rfl (fun c _ _ i _ _ => ?_), rfl, rfl⟩
        have hc : c = 2 := by omega
        have hi : i = 2 := by omega
        subst hc hi; rfl
      · exact ⟨3, _, Trace.mk3 (k := 3) (by decide) (by decide) (by decide) sz bd (fun _ => hB) (fun _ => hC) (fun _ => by rw [stepTo_zero]) (fun _ => (show (1 : Int) ≠ 0 by decide)) (fun _ => q) (fun _ => q2) rfl (fun c h _ i _ _ => by omega), rfl, rfl⟩
end
section
variable {g : Gl} {n : Nat}

theorem nextR_lt {ps : List Int} {k m : Nat} (h : 0 < m) : 0 ≤ nextR ps k m ∧ nextR ps k m < (m : Nat) := ⟨Int.fmod_nonneg_of_pos _ (by omega), Int.fmod_lt_of_pos _ (by omega)⟩
theorem defCall (gok : g.Ok) (k : Nat) (hk : k < 53 ∧ k ∉ [0,1,2,3,13,21,29,30,31,37,45] := by decide) : ∃ a, g.mg (dAt k).name = some (.ref a) ∧ Callable g (.ref a) := by
  obtain ⟨a, o, _, _, _, h, h1, h2, _⟩ := gok.fn _ (dAt_mem hk.1 hk.2)
  exact ⟨a, h, .fn h1 h2⟩
theorem mul_le' {x y : Int} {A B : Nat} (hx : x.natAbs ≤ A) (hy : y.natAbs ≤ B) : (x * y).natAbs ≤ A * B := by
  rw [Int.natAbs_mul]; exact Nat.mul_le_mul hx hy
theorem gridW {b0 b1 b2 c1 c2 : Int} (h0 : b0.natAbs ≤ 3) (h1 : b1.natAbs ≤ 3) (h3 : c1.natAbs ≤ 3) (h4 : c2.natAbs ≤ 3) :
    (∀ x ∈ (List.range 5).map (sumW [b0, b1, b2] [c1, c2]), x.natAbs < 2 ^ 20) ∧ (∀ i, ([1, c1, c1 * c1 * c2].getD i 0).natAbs < 2 ^ 60) ∧
    ∀ N, 1 ≤ N → N ≤ 3 → ∃ k Ms, Trace N k Ms ∧ Ms 0 = hank ((List.range 5).map (sumW [b0, b1, b2] [c1, c2])) N ∧ (if k < N then 0 else ent (Ms k) (N - 1) (N - 1)) = [1, c1, c1 * c1 * c2].getD (N - 1) 0 := by
  rw [sums_eq]
  have p := mul_le' h0 h0
  have q2 := mul_le' (x := b0 + b1) (y := b0 + b1) (A := 6) (B := 6) (by omega) (by omega)
  have f := mul_le' (x := c1) (y := (b0 + b1) * (b0 + b1) + c2) (A := 3) (B := 39) h3 (by omega)
  have e := mul_le' (x := c1) (y := b0 + b1) (A := 3) (B := 6) h3 (by omega)
  have t := mul_le' (x := b0) (y := b0 * b0 + c1) (A := 3) (B := 12) h0 (by omega)
  have s := mul_le' (x := b0 * b0 + c1) (y := b0 * b0 + c1) (A := 12) (B := 12) (by omega) (by omega)
  have d := mul_le' (x := c1 * c1) (y := c2) (A := 9) (B := 3) (mul_le' h3 h3) h4
  refine ⟨fun x hx => ?_, fun i => ?_, hankT (e := c1 * (b0 + b1)) (f := c1 * ((b0 + b1) * (b0 + b1) + c2)) (by omega) (by omega) (by omega) ?_ (fun h => ?_) ⟨by omega, by omega, by omega, by omega, by omega, by omega, by omega, by omega⟩⟩
  · simp only [List.mem_cons, List.not_mem_nil, or_false] at hx
    rcases hx with rfl | rfl | rfl | rfl | rfl <;> omega
  · match i with
    | 0 => show (1 : Int).natAbs < 2 ^ 60; decide
    | 1 => show c1.natAbs < 2 ^ 60; omega
    | 2 => show (c1 * c1 * c2).natAbs < 2 ^ 60; omega
    | i + 3 => show (0 : Int).natAbs < 2 ^ 60; decide
  · grind
  · subst h; exact ⟨Int.zero_mul _, Int.zero_mul _⟩

theorem law_c {ps : List Int} (gok : g.Ok) (hl : ps.length ≤ 100) : FnN g (n + 12) 52 [lV ps] (.bool true) := by
  intro a ha
  obtain ⟨an, hn, cn⟩ := defCall gok 46
  obtain ⟨am, hm, _⟩ := defCall gok 38
  suffices hbody : ∃ ρ', Exs g (n + 11) (dAt 52).scope.names (bindV ["script"] [lV ps]) (dAt 52).body (.ret (.fz (.bool true))) ρ' by
    obtain ⟨ρ', hbody⟩ := hbody
    exact Fn_ofC (names := ["script"]) (dAt_mem (by decide) (by decide)) ha (by intro pm code doc vals h; obtain ⟨v1, rfl⟩ := len1 h; rfl) rfl (by decide) (by decide +kernel) (fun L => (show (["downs", "stays", "w", "yard"] : List Str).Nodup by decide)) hbody .ret rfl rfl rfl
  refine Xs.ex (P := fun _ => True) ?_
  conv in (dAt 52).body => whnf
  conv in (dAt 52).scope.names => whnf
  simp only [bindV, List.zip_cons_cons, List.map_cons, List.zip_nil_left, List.map_nil]
  have lp : ((ps.take 6).map fun i => ((i.natAbs : Nat) : Int)).length ≤ 6 := by rw [List.length_map, List.length_take]; omega
  refine' Xs_assign (b := .own [.int ((0 : Nat) : Int), .list (((ps.take 6).map fun i => ((i.natAbs : Nat) : Int)).map V.int)]) (EvO_list (EvF_cons (Ev.ofInt Ev_int rfl) (EvF_cons (EvO_comp1 (vs := (ps.take 6).map V.int) (EvIt_list ((EvO_upTo (k := 6) ?a1 Ev_int ?a2).of (List.map_take ..).symm).fz) Sees.none (CompOk.of rfl rfl rfl rfl rfl rfl) .nil ?a3 ?a4 (fun i v y q1 q2 => ?a5)).fz EvF_nil))).ev ?a6 ?_
  case' a1 => fail "M.ev"
  case a2 => rw [List.length_map]; omega
  case a3 => simp
  case a4 => rw [List.length_map, List.length_take]; omega
  case' a5 =>
    rw [List.getElem?_map, Option.map_eq_some_iff] at q1
    obtain ⟨x, q1, rfl⟩ := q1
    rw [List.getElem?_map, List.getElem?_map, q1] at q2
    simp only [Option.map_some, Option.some.injEq] at q2
    subst q2
    refine' Ev_call (Ev_builtin rfl (by decide)) (EvF_cons (Ev_call (Ev_builtin rfl (by decide)) (EvF_cons ?b1 EvF_nil) .type Fn_int) EvF_nil) .builtin Fn_abs
    case' b1 => fail "M.ev"
  case a6 => fail "M.sto"
  generalize (ps.take 6).map (fun i => ((i.natAbs : Nat) : Int)) = P at *
  obtain ⟨w, ew, hw⟩ : ∃ w : Nat, 4 + nextR P 0 6 = (w : Nat) ∧ 1 ≤ w ∧ w ≤ 9 := by
    obtain ⟨h1, h2⟩ := nextR_lt (ps := P) (k := 0) (m := 6) (by decide)
    exact ⟨(4 + nextR P 0 6).toNat, by omega, by omega, by omega⟩
  refine' Xs_cons (Ex_tup2M (ts := []) (ρ₁ := ([("yard", .own [.int ((1 : Nat) : Int), .list (P.map V.int)]), ("script", .fz (lV ps))] : Rh)) (b1 := .fz (.int (w : Nat))) (b2 := .own ((List.range' 1 5).map fun j => V.int (nextR P j 7 - 3)))
    (EvM.ofInt (EvM_binopR Ev_int (EvM_next (Ev_fun hn) ?c1 (EvF_cons Ev_int EvF_nil) cn (next_c (n := n + 10) (k := 0) (many := 6) (by decide) (by omega) (by decide) hn) ?c2) op_add) ew)
    (EvM_comp1 (x := "yard") (Y := fun j => [.int ((j : Nat) : Int), .list (P.map V.int)]) (k := 1) (m := 5) (EvIt_upTo (m := 5) Ev_int ?c3) rfl ?c4 ?c5 (CompOk.of rfl rfl rfl rfl rfl rfl) (by decide) (fun j v hj => ?c6) (by decide) ?c7) (.cons ?c8 rfl (.cons ?c9 rfl .nil))) ?_
  case c1 => fail "M.mem"
  case c2 => exact .here
  case c3 => decide
  case c4 => fail "M.mem"
  case c5 => fail "M.mem"
  case' c6 =>
    refine' EvM_binopL (EvM_next (Ev_fun hn) ?d1 (EvF_cons Ev_int EvF_nil) cn (next_c (n := n + 10) (k := j) (many := 7) (by omega) (by omega) (by decide) hn) ?d2) Ev_int op_sub
    case d1 => fail "M.mem"
    case d2 => exact .skip .here
  case c7 => fail "M.put"
  case c8 => fail "M.sto"
  case c9 => fail "M.sto"
  have eW : (List.range' 1 5).map (fun j => V.int (nextR P j 7 - 3)) = ([nextR P 1 7 - 3, nextR P 2 7 - 3, nextR P 3 7 - 3, nextR P 4 7 - 3, nextR P 5 7 - 3] : List Int).map V.int := rfl
  rw [eW]
  have bW : ∀ j, (nextR P j 7 - 3).natAbs ≤ 3 := fun j => by
    obtain ⟨h1, h2⟩ := nextR_lt (ps := P) (k := j) (m := 7) (by decide)
    omega
  have w1 := bW 1
  have w2 := bW 2
  have w3 := bW 3
  have w4 := bW 4
  have w5 := bW 5
  generalize nextR P 1 7 - 3 = b0 at *
  generalize nextR P 2 7 - 3 = b1 at *
  generalize nextR P 3 7 - 3 = b2 at *
  generalize nextR P 4 7 - 3 = c1 at *
  generalize nextR P 5 7 - 3 = c2 at *
  have l5 : 3 ≤ ([b0, b1, b2, c1, c2].map V.int).length ∧ ([b0, b1, b2, c1, c2].map V.int).length ≤ 1000 := (show 3 ≤ 5 ∧ 5 ≤ 1000 by decide)
  have i0 : (0 : Int) ≤ 0 ∧ (0 : Int) < ([c1, c2].length : Nat) ∧ [c1, c2].length < 2 ^ 40 := (show (0 : Int) ≤ 0 ∧ (0 : Int) < (2 : Nat) ∧ 2 < 2 ^ 40 by decide)
  have i1 : (0 : Int) ≤ 1 ∧ (1 : Int) < ([c1, c2].length : Nat) ∧ [c1, c2].length < 2 ^ 40 := (show (0 : Int) ≤ 1 ∧ (1 : Int) < (2 : Nat) ∧ 2 < 2 ^ 40 by decide)
  refine' Xs_freeze (x := "weights") ?e1 ?e2 (Xs_cons (Ex_tup2M (ts := []) (b1 := .fz (lV [b0, b1, b2])) (b2 := .fz (lV [c1, c2])) ((EvO_to (xs := [b0, b1, b2, c1, c2].map V.int) (k := 3) ?e3 Ev_int l5).of rfl).fz.m ((EvO_from (xs := [b0, b1, b2, c1, c2].map V.int) (k := 3) ?e4 Ev_int l5).of rfl).fz.m (.cons ?e5 rfl (.cons ?e6 rfl .nil))) ?_)
  case e1 => fail "M.mem"
  case e2 => fail "M.put"
  case' e3 => fail "M.ev"
  case' e4 => fail "M.ev"
  case e5 => fail "M.sto"
  case e6 => fail "M.sto"
  obtain ⟨g1, g2, g3⟩ := gridW (b2 := b2) w1 w2 w4 w5
  have hs : ∀ x ∈ [b0, b1, b2], x.natAbs ≤ 3 := fun x hx => by
    simp only [List.mem_cons, List.not_mem_nil, or_false] at hx
    rcases hx with rfl | rfl | rfl <;> assumption
  have hd : ∀ x ∈ [c1, c2], x.natAbs ≤ 3 := fun x hx => by
    simp only [List.mem_cons, List.not_mem_nil, or_false] at hx
    rcases hx with rfl | rfl <;> assumption
  refine' Xs_assignComp1 (ρc := [("stays", .fz (lV [b0, b1, b2])), ("downs", .fz (lV [c1, c2])), ("w", .fz (.int (w : Nat)))]) (ys := ((List.range 5).map (sumW [b0, b1, b2] [c1, c2])).map (sV w)) (EvIt_upTo (m := 5) Ev_int (by decide))
    (.cons ?f1 ?f2 rfl (show ("stays" : Str) ∉ (["downs", "w"] : List Str) by decide) (.cons ?f3 ?f4 rfl (show ("downs" : Str) ∉ (["w"] : List Str) by decide) (.cons ?f5 ?f6 rfl (fun q => nomatch q) Sees.none))) (CompOk.of rfl rfl rfl rfl rfl rfl) ?f7 (by simp [rngV]) (by simp [rngV]) (fun j v y q1 q2 => ?_) ?f8 ?_
  case f1 => fail "M.mem"
  case f2 => fail "M.mem"
  case f3 => fail "M.mem"
  case f4 => fail "M.mem"
  case f5 => fail "M.mem"
  case f6 => fail "M.mem"
  case f7 => fail "M.new"
  case f8 => fail "M.sto"
  · obtain ⟨hj, rfl⟩ := rngV_get q1
    have hy : y = sV w (sumW [b0, b1, b2] [c1, c2] (0 + j)) := by
      rw [List.map_map, List.getElem?_map, List.getElem?_range (by omega)] at q2
      simp only [Option.map_some, Option.some.injEq] at q2
      rw [Nat.zero_add]
      exact q2.symm
    subst hy
    have bs := g1 _ (List.mem_map.mpr ⟨0 + j, List.mem_range.mpr (by omega), rfl⟩)
    refine' Ev_callN (k := 48) (EvF_cons (Ev_callN (k := 50) ?h1 ((walks_c (n := 0) (k := 0 + j) (by omega) rfl rfl hs hd).less (by omega))) ?h2) ((lsigned_c (n := 0) hw (by omega)).less (by omega))
    case' h1 => fail "M.evs"
    case' h2 => fail "M.evs"
  have ld : (List.map (sumW [b0, b1, b2] [c1, c2]) (List.range 5)).length = 5 := by rw [List.length_map, List.length_range]
  generalize (List.range 5).map (sumW [b0, b1, b2] [c1, c2]) = sm at *
  have m1 : IntMulOk c1 c1 := .of_left (Nat.le_trans (bits_le (k := 60) (by omega)) (by decide))
  have b2' := mul_le' w4 w4
  have m2 : IntMulOk (c1 * c1) c2 := .of_left (Nat.le_trans (bits_le (k := 60) (by omega)) (by decide))
  refine' Xs_freeze (x := "sums") ?i1 ?i2 (Xs_skip (Tr.of (Tr_not (Tr_bool (Ev_callN (k := 51) (EvF_cons ?i3 (EvF_cons ((EvO_list (EvF_cons Ev_int (EvF_cons (Ev_itemI (xs := [c1, c2]) (k := 0) ?i4 Ev_int i0) (EvF_cons (Ev_binop (a := c1 * c1) (b := c2) (Ev_binop (a := c1) (b := c1) (Ev_itemI (xs := [c1, c2]) (k := 0) ?i5 Ev_int i0) (Ev_itemI (xs := [c1, c2]) (k := 0) ?i6 Ev_int i0) (op_mul m1)) (Ev_itemI (xs := [c1, c2]) (k := 1) ?i7 Ev_int i1) (op_mul m2)) EvF_nil)))).fzI (ys := [1, c1, c1 * c1 * c2]) rfl) ?i8)) (grids_c (n := n) (due := [1, c1, c1 * c1 * c2]) gok hw (show 3 ≤ 20 by decide) (by rw [ld]; exact Nat.le_refl _) (by omega) g2 g3)))) rfl) ?_)
  case i1 => fail "M.mem"
  case i2 => fail "M.put"
  case' i3 => fail "M.ev"
  case' i4 => fail "M.ev"
  case' i5 => fail "M.ev"
  case' i6 => fail "M.ev"
  case' i7 => fail "M.ev"
  case' i8 => fail "M.evs"
  refine' Xs_assignComp1 (ρc := [("w", .fz (.int (w : Nat)))]) (ys := ([1, 1, 2, 5, 14] : List Int).map (sV w)) (EvIt_upTo (m := 5) Ev_int (by decide))
    (.cons ?j1 ?j2 rfl (fun q => nomatch q) Sees.none) (CompOk.of rfl rfl rfl rfl rfl rfl) ?j3 (by simp [rngV]) (by simp [rngV]) (fun j v y q1 q2 => ?_) ?j4 ?_
  case j1 => fail "M.mem"
  case j2 => fail "M.mem"
  case j3 => fail "M.new"
  case j4 => fail "M.sto"
  · obtain ⟨hj, rfl⟩ := rngV_get q1
    have hy : V.tuple [.bool false, nV w (catN.getD (0 + j) 0)] = y := by
      rw [Nat.zero_add]
      match j, hj, q2 with
      | 0, _, q2 => exact Option.some.inj q2
      | 1, _, q2 => exact Option.some.inj q2
      | 2, _, q2 => exact Option.some.inj q2
      | 3, _, q2 => exact Option.some.inj q2
      | 4, _, q2 => exact Option.some.inj q2
      | j + 5, h, _ => omega
    subst hy
    refine' Ev_tuple (EvF_cons Ev_bool (EvF_cons (Ev_callN (k := 20) (EvF_cons ?k1 (EvF_cons ?k2 (EvF_cons (Ev_fun hm) EvF_nil))) ((cat_c (n := n) hw ⟨am, rfl, hm⟩ (0 + j) (by omega)).less (by omega))) EvF_nil))
    case' k1 => fail "M.ev"
    case' k2 => fail "M.ev"
  refine' Xs_freeze (x := "row") ?l1 ?l2 (Xs_return (Ev_callN (k := 51) (EvF_cons ?l3 (EvF_cons ((EvO_list (EvF_cons Ev_int (EvF_cons Ev_int (EvF_cons Ev_int EvF_nil)))).fzI (ys := [1, 1, 1]) rfl) ?l4)) (grids_c (n := n) (row := [1, 1, 2, 5, 14]) (due := [1, 1, 1]) gok hw (by decide) (by decide) (by decide) ?l5 (hankT (s1 := 1) (s2 := 2) (s3 := 5) (s4 := 14) (c1 := 1) (e := 3) (f := 10) (D := 1) (by decide) (by decide) (by decide) (by decide) (by decide) (by decide)))))
  case l1 => fail "M.mem"
  case l2 => fail "M.put"
  case' l3 => fail "M.ev"
  case' l4 => fail "M.evs"
  case l5 =>
    intro i
    match i with
    | 0 => decide
    | 1 => decide
    | 2 => decide
    | i + 3 => show (0 : Int).natAbs < 2 ^ 60; decide
end
end Mine
namespace Mine
theorem recs_q : recsOf Q = defsOf := by kernel_rfl
theorem free_q : (([("len" : Str), "range", "enumerate", "abs", "int", "sum", "min"] : List Str).all fun x => !startupNames.contains x && !(looseW Q [Str.ofString "NOUGHT", Str.ofString "UNIT"]).contains x && !((recsOf Q).map (·.name)).contains x && !((litsOf Q).map (·.1)).contains x && !((clssOf Q (looseW Q [Str.ofString "NOUGHT", Str.ofString "UNIT"])).map (·.name)).contains x) = true := by decide +kernel
theorem glOk {p : Program} {R : WRecords} {w : World} {s₀ : Shared} {mg mb : Str → Option Value} {h : Heap} (G : Ground Q [Str.ofString "NOUGHT", Str.ofString "UNIT"] R ConstsAre w s₀ mg mb h) : (⟨p, w, h, mg, mb⟩ : Gl).Ok where
  gns := G.T.g
  bns := G.T.b
  nolimit := G.T.nolimit
  builtins := G.T.builtins
  fn := fun d hd => G.T.fn d (by rw [recs_q]; exact hd)
  free := fun x hx => by
    have h := List.all_eq_true.mp free_q x hx
    simp only [Bool.and_eq_true, Bool.not_eq_true', List.contains_eq_mem, decide_eq_false_iff_not] at h
    exact G.T.free x h.1.1.1.1 h.1.1.1.2 h.1.1.2 h.1.2 h.2
  nought := G.X.1
  unit := G.X.2
theorem ints_well {P : Params} {h : Heap} : ∀ (ps : List Int) (vs : List Value), WellAll P h vs (ofPys (ps.map .int)) → DenL h.get? (ps.map .int) vs
  | [], vs, q => by cases q; exact DenL.nil
  | p :: ps, vs, q => by
    cases q with
    | cons a b => cases a with
      | int i t => exact DenL.cons mk_int (ints_well ps _ b)
theorem arg_well {P : Params} {h : Heap} {ps : List Int} {v : Value} (q : Well P h v (ofPy (.list (ps.map .int)))) : Den h.get? (lV ps) v := by
  cases q with
  | list ha b =>
    simp only [Den]
    exact ⟨_, _, rfl, ⟨0, ha⟩, ints_well ps _ b⟩
theorem ends {p : Program} {c : ClaimW} {cl : Str → Option Addr} {mean : ExcName → Option Value} {args : List WData} {R : WRecords} {w : World} {s₀ s₁ : Shared} {mg mb : Str → Option Value} {fa : Addr} {v : Value} {ps : List Int}
    (G : Ground Q [Str.ofString "NOUGHT", Str.ofString "UNIT"] R ConstsAre w s₀ mg mb s₁.heap) (hm : mg (dAt 52).name = some (.ref fa)) (hg : s₁.gens = #[]) (d : Den s₁.heap.get? (lV ps) v) (hl : ps.length ≤ 100)
    (hr : ∀ cls, c.raises args cls = false) (hp : c.post args (.bool true) args = true) :
    wpAny (model p w) callerA (call (.ref fa) [v]) (fun v s' => GoodWG c cl mean args s₁ (.ok (.ret v)) s') (fun e s' => GoodWG c cl mean args s₁ (.error e) s') s₁ := by
  have gok : (⟨p, w, s₁.heap, mg, mb⟩ : Gl).Ok := glOk G
  have f := law_c (g := ⟨p, w, s₁.heap, mg, mb⟩) (n := 0) (ps := ps) gok hl fa hm
  refine wpAny_mono (f callerA s₁.heap.get? s₁ [v] gok ⟨rfl, by decide, by decide⟩ (Le.refl _) (Le.refl _) (DenL.cons d DenL.nil)) (fun v s' h => ?_) fun _ _ e => e.elim
  obtain ⟨H', cp, dv⟩ := h
  cases den_bool dv
  exact ⟨.inl ⟨_, _, [], rfl, hr, ReadsW.bool true, hp, fun _ => ⟨List.nodup_nil, fun _ hm => (nomatch hm)⟩⟩, .of_keep cp.keep, cp.os, by rw [cp.gens, hg]; exact AllBare.empty⟩
end Mine
theorem PySem.Challenge.cw_xm0446_01_holds : PySem.Challenge.rw_xm0446_01.Holds := by
  refine holds_law Mine.said fun said => ?_
  refine holds_open (q := Mine.Q) (loose := [Str.ofString "NOUGHT", Str.ofString "UNIT"]) (Xt := Mine.Xt) (XP := Mine.ConstsAre) (Yf := fun _ => ()) (Ya := fun _ => ()) (YP := fun _ _ => True) (N := 4256) Mine.left (fun _ _ _ => trivial) (fun _ _ _ _ _ => trivial)
    (fun s e => Mine.consts_of e) (fun mg h h' x k => x.keeps k) (by rfl) (by rfl) (by rfl) (fun s e => recFacts_nil rfl) (by rfl) said (by decide +kernel) ⟨rfl, rfl, rfl, rfl, rfl, by decide +kernel⟩ ?hw ?hc
  case hw => w_witness2
  intro w s₀ s₁ mg mb G Y fa o pm cd doc dV kV ho hd hcd hD hmg hg args vals as hpre hlay hrd hwl hlo
  clear ho hd hcd hD
  wrow_args hpre hlay hrd hwl hlo
  refine Mine.ends G hmg hg (Mine.arg_well (by assumption)) (by omega) (fun _ => rfl) ?_
  wrow_post
