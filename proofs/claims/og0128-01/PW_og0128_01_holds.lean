import PyProof.Rows.All
import Wide.All
import OpenK.AllK
import Wide.FinOn
import Lean
import PySem.Challenge.RW_og0128_01
set_option Elab.async false

namespace Mine
open PySem PySem.Calls PyProof.Rows
set_option maxRecDepth 100000
set_option linter.unusedVariables false
set_option compiler.extract_closed false
set_option genSizeOfSpec false

/-! values, objects, the abstract heap -/
inductive AV where
  | none
  | bool (b : Bool)
  | int (i : Int)
  | str (x : Str)
  | tup (l : List AV)
  | ref (a : Addr)

inductive AO where
  | lst (l : List AV)
  | arr (l : List AV)
  | dic (f : Int → Option AV) (n : Nat)

abbrev AH := List (Addr × AO)
abbrev Vars := List (Str × AV)

mutual
inductive VR (h : Heap) : Value → AV → Prop
  | none : VR h .none .none
  | bool (b : Bool) : VR h (.bool b) (.bool b)
  | int (i : Int) (t : Tok) : VR h (.int i t) (.int i)
  | str (x : Str) (t : Tok) : VR h (.str x t) (.str x)
  | tup {a : Addr} {vs : List Value} {n : Nat} {l : List AV} : IsT h a vs.toArray n → VRs h vs l → VR h (.ref a) (.tup l)
  | ref (a : Addr) : VR h (.ref a) (.ref a)
inductive VRs (h : Heap) : List Value → List AV → Prop
  | nil : VRs h [] []
  | cons {v : Value} {vs : List Value} {a : AV} {l : List AV} : VR h v a → VRs h vs l → VRs h (v :: vs) (a :: l)
end

def TupKeep (h h' : Heap) : Prop := ∀ a vs n, IsT h a vs n → IsT h' a vs n
theorem TupKeep.refl (h : Heap) : TupKeep h h := fun _ _ _ x => x
theorem TupKeep.trans {h h' h'' : Heap} (x : TupKeep h h') (y : TupKeep h' h'') : TupKeep h h'' := fun a vs n z => y a vs n (x a vs n z)

mutual
theorem VR.mono {h h' : Heap} (k : TupKeep h h') : ∀ {v : Value} {a : AV}, VR h v a → VR h' v a
  | _, _, .none => .none
  | _, _, .bool b => .bool b
  | _, _, .int i t => .int i t
  | _, _, .str x t => .str x t
  | _, _, .tup h1 h2 => .tup (k _ _ _ h1) (VRs.mono k h2)
  | _, _, .ref a => .ref a
theorem VRs.mono {h h' : Heap} (k : TupKeep h h') : ∀ {vs : List Value} {l : List AV}, VRs h vs l → VRs h' vs l
  | _, _, .nil => .nil
  | _, _, .cons h1 h2 => .cons (VR.mono k h1) (VRs.mono k h2)
end

theorem VRs.length {h : Heap} {vs : List Value} {l : List AV} (x : VRs h vs l) : vs.length = l.length := by
  induction vs generalizing l with
  | nil => cases x; rfl
  | cons v vs ih => cases x with | cons h1 h2 => simp [ih h2]
theorem VRs.append {h : Heap} {vs ws : List Value} {l k : List AV} (x : VRs h vs l) (y : VRs h ws k) : VRs h (vs ++ ws) (l ++ k) := by
  induction vs generalizing l with
  | nil => cases x; exact y
  | cons v vs ih => cases x with | cons h1 h2 => exact .cons h1 (ih h2)
theorem VRs.get {h : Heap} {vs : List Value} {l : List AV} (x : VRs h vs l) {i : Nat} {a : AV} (e : l[i]? = some a) : ∃ v, vs[i]? = some v ∧ VR h v a := by
  induction vs generalizing l i with
  | nil => cases x; simp at e
  | cons v vs ih =>
    cases x with
    | cons h1 h2 =>
      cases i with
      | zero => simp at e; subst e; exact ⟨v, rfl, h1⟩
      | succ i => simp at e; simpa using ih h2 e
theorem VRs.get' {h : Heap} {vs : List Value} {l : List AV} (x : VRs h vs l) {i : Nat} {v : Value} (e : vs[i]? = some v) : ∃ a, l[i]? = some a ∧ VR h v a := by
  induction vs generalizing l i with
  | nil => simp at e
  | cons v' vs ih =>
    cases x with
    | cons h1 h2 =>
      cases i with
      | zero => simp at e; subst e; exact ⟨_, rfl, h1⟩
      | succ i => simp at e; simpa using ih h2 e
theorem VRs.take {h : Heap} {vs : List Value} {l : List AV} (x : VRs h vs l) (n : Nat) : VRs h (vs.take n) (l.take n) := by
  induction vs generalizing l n with
  | nil => cases x; simpa using VRs.nil
  | cons v vs ih =>
    cases x with
    | cons h1 h2 =>
      cases n with
      | zero => exact .nil
      | succ n => exact .cons h1 (ih h2 n)
theorem VRs.drop {h : Heap} {vs : List Value} {l : List AV} (x : VRs h vs l) (n : Nat) : VRs h (vs.drop n) (l.drop n) := by
  induction vs generalizing l n with
  | nil => cases x; simpa using VRs.nil
  | cons v vs ih =>
    cases x with
    | cons h1 h2 =>
      cases n with
      | zero => exact .cons h1 h2
      | succ n => exact ih h2 n
theorem VRs.set {h : Heap} {vs : List Value} {l : List AV} (x : VRs h vs l) (i : Nat) {v : Value} {a : AV} (y : VR h v a) : VRs h (vs.set i v) (l.set i a) := by
  induction vs generalizing l i with
  | nil => cases x; simpa using VRs.nil
  | cons v' vs ih =>
    cases x with
    | cons h1 h2 =>
      cases i with
      | zero => exact .cons y h2
      | succ i => exact .cons h1 (ih h2 i)
theorem VRs.snoc {h : Heap} {vs : List Value} {l : List AV} (x : VRs h vs l) {v : Value} {a : AV} (y : VR h v a) : VRs h (vs ++ [v]) (l ++ [a]) := x.append (.cons y .nil)
theorem VRs.replicate {h : Heap} {v : Value} {a : AV} (y : VR h v a) (n : Nat) : VRs h (List.replicate n v) (List.replicate n a) := by
  induction n with
  | zero => exact .nil
  | succ n ih => exact .cons y ih

def OR (h : Heap) (a : Addr) : AO → Prop
  | .lst l => ∃ vs n, IsL h a (List.toArray vs) n ∧ VRs h vs l
  | .arr l => ∃ vs, h.IsList a (List.toArray vs) ∧ VRs h vs l
  | .dic f n => ∃ g, h.IntMap a g ∧ h.DictLe a n ∧ ∀ k, match f k with | Option.none => g k = Option.none | some x => ∃ v, g k = some v ∧ VR h v x

theorem OR.notTup {h : Heap} {a : Addr} {o : AO} (x : OR h a o) {vs : Array Value} {n : Nat} (y : IsT h a vs n) : False := by
  cases o with
  | lst l => obtain ⟨ws, m, z, _⟩ := x; unfold IsT at y; unfold IsL at z; rw [y] at z; injection z with z; injection z with z1 z2; injection z1 with z1; revert z1; decide
  | arr l => obtain ⟨ws, z, _⟩ := x; obtain ⟨o, ho, hc, _⟩ := z; unfold IsT at y; rw [y] at ho; injection ho with ho; subst ho; exact absurd (show Value.type "tuple" = Value.type "list" from hc) (by decide)
  | dic f k => obtain ⟨g, z, _⟩ := x; obtain ⟨o, es, ep, ho, hc, hd, _⟩ := z; unfold IsT at y; rw [y] at ho; injection ho with ho; subst ho; cases hd
theorem OR.notCell {h : Heap} {a : Addr} {o : AO} (x : OR h a o) {ob : Obj} {u : Option Value} (y : h.get? a = some ob) (z : ob.data = .cell u) : False := by
  cases o with
  | lst l => obtain ⟨ws, m, q, _⟩ := x; unfold IsL at q; rw [y] at q; injection q with q; subst q; cases z
  | arr l => obtain ⟨ws, q, _⟩ := x; obtain ⟨o, ho, hc, _, hd⟩ := q; rw [y] at ho; injection ho with ho; subst ho; rw [z] at hd; cases hd
  | dic f k => obtain ⟨g, q, _⟩ := x; obtain ⟨o, es, ep, ho, hc, hd, _⟩ := q; rw [y] at ho; injection ho with ho; subst ho; rw [z] at hd; cases hd
theorem IsL.isList {h : Heap} {a : Addr} {vs : Array Value} {n : Nat} (x : IsL h a vs n) : h.IsList a vs := ⟨_, x, rfl, n, rfl⟩
theorem OR.toArr {h : Heap} {a : Addr} {l : List AV} (x : OR h a (.lst l)) : OR h a (.arr l) := let ⟨vs, _, z, y⟩ := x; ⟨vs, IsL.isList z, y⟩
theorem OR.keep {h h' : Heap} {a : Addr} {o : AO} (x : OR h a o) (k : TupKeep h h') (e : ∀ ob, h.get? a = some ob → h'.get? a = some ob) : OR h' a o := by
  cases o with
  | lst l => obtain ⟨ws, m, q, r⟩ := x; exact ⟨ws, m, e _ q, r.mono k⟩
  | arr l => obtain ⟨ws, ⟨o, ho, q⟩, r⟩ := x; exact ⟨ws, ⟨o, e _ ho, q⟩, r.mono k⟩
  | dic f n =>
    obtain ⟨g, ⟨o, es, ep, ho, q⟩, d, r⟩ := x
    refine ⟨g, ⟨o, es, ep, e _ ho, q⟩, fun o' es' ep' ho' hd' => ?_, fun k' => ?_⟩
    · have := e _ ho; rw [ho'] at this; injection this with this; subst this; exact d _ _ _ ho hd'
    · have z := r k'
      cases hf : f k' with
      | none => rw [hf] at z; exact z
      | some y => rw [hf] at z; obtain ⟨v, z1, z2⟩ := z; exact ⟨v, z1, z2.mono k⟩

inductive HSub : AH → AH → Prop
  | nil : HSub [] []
  | skip {e : Addr × AO} {H' H : AH} : HSub H' H → HSub H' (e :: H)
  | cons {e : Addr × AO} {H' H : AH} : HSub H' H → HSub (e :: H') (e :: H)
  | arr {a : Addr} {l : List AV} {H' H : AH} : HSub H' H → HSub ((a, .arr l) :: H') ((a, .lst l) :: H)
theorem HSub.refl : ∀ H : AH, HSub H H
  | [] => .nil
  | _ :: H => .cons (HSub.refl H)
theorem HSub.keys {H' H : AH} (x : HSub H' H) : (H'.map (·.1)).Sublist (H.map (·.1)) := by
  induction x with
  | nil => exact .slnil
  | skip _ ih => exact .cons _ ih
  | cons _ ih => exact ih.cons_cons _
  | arr _ ih => exact ih.cons_cons _
theorem HSub.mem {H' H : AH} (x : HSub H' H) : ∀ e ∈ H', ∃ o, (e.1, o) ∈ H ∧ ∀ h, OR h e.1 o → OR h e.1 e.2 := by
  induction x with
  | nil => intro e he; cases he
  | skip _ ih => intro e he; obtain ⟨o, h1, h2⟩ := ih e he; exact ⟨o, .tail _ h1, h2⟩
  | cons _ ih =>
    intro e he
    rcases List.mem_cons.mp he with rfl | he
    · exact ⟨_, .head _, fun _ y => y⟩
    · obtain ⟨o, h1, h2⟩ := ih e he; exact ⟨o, .tail _ h1, h2⟩
  | arr _ ih =>
    intro e he
    rcases List.mem_cons.mp he with rfl | he
    · exact ⟨_, .head _, fun _ y => y.toArr⟩
    · obtain ⟨o, h1, h2⟩ := ih e he; exact ⟨o, .tail _ h1, h2⟩
theorem HSub.app {X X' H H' : AH} (x : HSub X' X) (y : HSub H' H) : HSub (X' ++ H') (X ++ H) := by
  induction x with
  | nil => exact y
  | skip _ ih => exact .skip ih
  | cons _ ih => exact .cons ih
  | arr _ ih => exact .arr ih
theorem HSub.drop {H : AH} : ∀ X : AH, HSub H (X ++ H)
  | [] => HSub.refl H
  | _ :: X => .skip (HSub.drop X)

structure HI (B : Heap) (H : AH) (h : Heap) : Prop where
  keep : ∀ b o, B.get? b = some o → h.get? b = some o
  nd : (H.map (·.1)).Nodup
  hr : ∀ e ∈ H, OR h e.1 e.2
  hb : ∀ e ∈ H, B.get? e.1 = none

structure EI (B : Heap) (env : Env) (V : Vars) (H : AH) (h : Heap) : Prop where
  loc : ∃ m, h.Ns env.locals m ∧ ∀ x a, V.lookup x = some a → env.kindOf x = some .local → ∃ u, m x = some u ∧ VR h u a
  cel : ∀ x c, env.cells.lookup x = some c → ∃ o u, h.get? c = some o ∧ o.data = .cell u ∧ (∀ a, V.lookup x = some a → env.kindOf x ≠ some .local → ∃ v, u = some v ∧ VR h v a)
  lH : ∀ e ∈ H, e.1 ≠ env.locals
  lB : B.get? env.locals = none
  cB : ∀ x c, env.cells.lookup x = some c → B.get? c = none
  ci : ∀ x y c, env.cells.lookup x = some c → env.cells.lookup y = some c → x = y

structure Inv (B : Heap) (env : Env) (V : Vars) (H : AH) (s : Shared) : Prop where
  hi : HI B H s.heap
  ei : EI B env V H s.heap

structure Ext (H : AH) (s : Shared) (H' : AH) (s' : Shared) : Prop where
  out : ∃ h tk, s' = { s with heap := h, toks := tk }
  keep : ∀ b o, s.heap.get? b = some o → (∀ e ∈ H, e.1 ≠ b) → s'.heap.get? b = some o
  stay : ∀ b o, s.heap.get? b = some o → ∃ o', s'.heap.get? b = some o'
  nd : (H'.map (·.1)).Nodup
  hr : ∀ e ∈ H', OR s'.heap e.1 e.2
  fresh : ∀ e ∈ H', (∃ e₀ ∈ H, e₀.1 = e.1) ∨ s.heap.get? e.1 = none

theorem HI.tup {B : Heap} {H : AH} {h : Heap} (x : HI B H h) {a : Addr} {vs : Array Value} {n : Nat} (y : IsT h a vs n) : ∀ e ∈ H, e.1 ≠ a := fun e he q => by
  subst q; exact (x.hr e he).notTup y

theorem Ext.tk {B : Heap} {H H' : AH} {s s' : Shared} (x : HI B H s.heap) (y : Ext H s H' s') : TupKeep s.heap s'.heap := fun a _ _ z => y.keep a _ z (x.tup z)

theorem Ext.hi {B : Heap} {H H' : AH} {s s' : Shared} (x : HI B H s.heap) (y : Ext H s H' s') : HI B H' s'.heap := by
  refine ⟨fun b o e => y.keep b o (x.keep b o e) fun e' he q => ?_, y.nd, y.hr, fun e he => ?_⟩
  · have := x.hb e' he; rw [q, e] at this; cases this
  · rcases y.fresh e he with ⟨e₀, h₀, q⟩ | q
    · rw [← q]; exact x.hb e₀ h₀
    · cases hq : B.get? e.1 with
      | none => rfl
      | some o => have := x.keep _ _ hq; rw [q] at this; cases this

theorem Ext.ei {B : Heap} {env : Env} {V : Vars} {H H' : AH} {s s' : Shared} (x : Inv B env V H s) (y : Ext H s H' s') : EI B env V H' s'.heap := by
  have tk := y.tk x.hi
  obtain ⟨m, hm, hv⟩ := x.ei.loc
  have hL := hm
  obtain ⟨o, es, ep, ho, hr⟩ := hL
  refine ⟨⟨m, ⟨o, es, ep, y.keep _ _ ho x.ei.lH, hr⟩, fun z a e k => ?_⟩, fun z c e => ?_, fun e he q => ?_, x.ei.lB, x.ei.cB, x.ei.ci⟩
  · obtain ⟨u, q1, q2⟩ := hv z a e k; exact ⟨u, q1, q2.mono tk⟩
  · obtain ⟨ob, u, h1, h2, h3⟩ := x.ei.cel z c e
    refine ⟨ob, u, y.keep _ _ h1 fun e' he' q => ?_, h2, fun a q k => ?_⟩
    · exact (x.hi.hr e' he').notCell (q ▸ h1) h2
    · obtain ⟨v, q1, q2⟩ := h3 a q k; exact ⟨v, q1, q2.mono tk⟩
  · rcases y.fresh e he with ⟨e₀, h₀, q'⟩ | q'
    · exact x.ei.lH e₀ h₀ (q'.trans q)
    · rw [q, ho] at q'; cases q'

theorem Ext.inv {B : Heap} {env : Env} {V : Vars} {H H' : AH} {s s' : Shared} (x : Inv B env V H s) (y : Ext H s H' s') : Inv B env V H' s' := ⟨y.hi x.hi, y.ei x⟩

theorem Ext.refl {B : Heap} {H : AH} {s : Shared} (x : HI B H s.heap) : Ext H s H s := ⟨⟨_, _, rfl⟩, fun _ _ e _ => e, fun _ o e => ⟨o, e⟩, x.nd, x.hr, fun e he => .inl ⟨e, he, rfl⟩⟩

theorem Ext.toks {B : Heap} {H : AH} {s : Shared} (x : HI B H s.heap) (t : Nat) : Ext H s H { s with toks := t } := ⟨⟨_, _, rfl⟩, fun _ _ e _ => e, fun _ o e => ⟨o, e⟩, x.nd, x.hr, fun e he => .inl ⟨e, he, rfl⟩⟩

theorem Ext.trans {H H₁ H₂ : AH} {s s₁ s₂ : Shared} (x : Ext H s H₁ s₁) (y : Ext H₁ s₁ H₂ s₂) : Ext H s H₂ s₂ := by
  obtain ⟨h, tk, rfl⟩ := x.out
  obtain ⟨h', tk', rfl⟩ := y.out
  refine ⟨⟨_, _, rfl⟩, fun b o e k => y.keep b o (x.keep b o e k) fun e' he' q => ?_, fun b o e => (let ⟨o', e'⟩ := x.stay b o e; y.stay b o' e'), y.nd, y.hr, fun e he => ?_⟩
  · rcases x.fresh e' he' with ⟨e₀, h₀, q'⟩ | q'
    · exact k e₀ h₀ (q'.trans q)
    · rw [q, e] at q'; cases q'
  · rcases y.fresh e he with ⟨e₀, h₀, q⟩ | q
    · rw [← q]; exact x.fresh e₀ h₀
    · cases hq : s.heap.get? e.1 with
      | none => exact .inr rfl
      | some o =>
        by_cases hh : ∃ e₀ ∈ H, e₀.1 = e.1
        · exact .inl hh
        · have := x.keep _ _ hq fun e' he' q' => hh ⟨e', he', q'⟩
          rw [q] at this; cases this

theorem Ext.weaken {H H₁ H₂ : AH} {s s₁ : Shared} (x : Ext H s H₁ s₁) (k : HSub H₂ H₁) : Ext H s H₂ s₁ := by
  refine ⟨x.out, x.keep, x.stay, k.keys.nodup x.nd, fun e he => ?_, fun e he => ?_⟩
  · obtain ⟨o, h1, h2⟩ := k.mem e he; exact h2 _ (x.hr _ h1)
  · obtain ⟨o, h1, h2⟩ := k.mem e he; exact x.fresh (e.1, o) h1
theorem HI.weaken {B : Heap} {H H' : AH} {h : Heap} (x : HI B H h) (k : HSub H' H) : HI B H' h := by
  refine ⟨x.keep, k.keys.nodup x.nd, fun e he => ?_, fun e he => ?_⟩
  · obtain ⟨o, h1, h2⟩ := k.mem e he; exact h2 _ (x.hr _ h1)
  · obtain ⟨o, h1, h2⟩ := k.mem e he; exact x.hb (e.1, o) h1

def VSub (V' V : Vars) : Prop := ∀ x a, V'.lookup x = some a → V.lookup x = some a
theorem EI.weaken {B : Heap} {env : Env} {V V' : Vars} {H H' : AH} {h : Heap} (x : EI B env V H h) (k : HSub H' H) (j : VSub V' V) : EI B env V' H' h := by
  obtain ⟨m, hm, hv⟩ := x.loc
  refine ⟨⟨m, hm, fun z a e => hv z a (j z a e)⟩, fun z c e => ?_, fun e he => (let ⟨o, h1, _⟩ := k.mem e he; x.lH (e.1, o) h1), x.lB, x.cB, x.ci⟩
  obtain ⟨ob, u, h1, h2, h3⟩ := x.cel z c e
  exact ⟨ob, u, h1, h2, fun a q => h3 a (j z a q)⟩
theorem Inv.weaken {B : Heap} {env : Env} {V V' : Vars} {H H' : AH} {s : Shared} (x : Inv B env V H s) (k : HSub H' H) (j : VSub V' V) : Inv B env V' H' s := ⟨x.hi.weaken k, x.ei.weaken k j⟩
theorem VSub.refl (V : Vars) : VSub V V := fun _ _ e => e

structure Room (A : Around) (n : Nat) : Prop where
  hd : A.handled = none
  dp : A.depth + n ≤ 900
  un : A.units + 16 * n ≤ 9000
theorem Room.units {A : Around} {n : Nat} (r : Room A n) : A.units + 64 < cLine := by have := r.un; rw [cLine_is]; omega
theorem Room.units1 {A : Around} {n : Nat} (r : Room A n) : A.units < cLine := by have := r.un; rw [cLine_is]; omega
theorem Room.mark {A : Around} {n : Nat} (r : Room A n) : Room (A.mark none) n := ⟨r.hd, r.dp, r.un⟩
theorem mark_none (A : Around) : A.mark none = A := rfl
theorem Room.deeper {A : Around} {n : Nat} (r : Room A (n + 1)) (env : Env) : Room (A.deeper env) n := ⟨r.hd, by have := r.dp; show A.depth + 1 + n ≤ 900; omega, by have := r.un; show A.units + 3 + 16 * n ≤ 9000; omega⟩
theorem Room.limit {A : Around} {n : Nat} (r : Room A n) : A.depth < recursionLimit := by have := r.dp; unfold recursionLimit; omega
theorem Room.le {A : Around} {n m : Nat} (r : Room A n) (h : m ≤ n) : Room A m := ⟨r.hd, by have := r.dp; omega, by have := r.un; omega⟩

section
variable (prog : Program) (w : World) (B : Heap) (n : Nat) (env : Env) (V : Vars) (H : AH)
def wpV (t : Sem Value) (K : AV → AH → Prop) : Prop :=
  ∀ A s, Room A n → Inv B env V H s → wpAny (model prog w) A t (fun v s' => ∃ a H', K a H' ∧ VR s'.heap v a ∧ Ext H s H' s') (fun _ _ => False) s
def wpL (t : Sem (List Value)) (K : List AV → AH → Prop) : Prop :=
  ∀ A s, Room A n → Inv B env V H s → wpAny (model prog w) A t (fun v s' => ∃ a H', K a H' ∧ VRs s'.heap v a ∧ Ext H s H' s') (fun _ _ => False) s
def wpB (t : Sem Bool) (K : Bool → AH → Prop) : Prop :=
  ∀ A s, Room A n → Inv B env V H s → wpAny (model prog w) A t (fun b s' => ∃ H', K b H' ∧ Ext H s H' s') (fun _ _ => False) s
end

def opV (prog : Program) (w : World) (B : Heap) (n : Nat) (l : List AV) (H : AH) (t : List Value → Sem Value) (K : AV → AH → Prop) : Prop :=
  ∀ A s vs, Room A n → HI B H s.heap → VRs s.heap vs l → wpAny (model prog w) A (t vs) (fun v s' => ∃ a H', K a H' ∧ VR s'.heap v a ∧ Ext H s H' s') (fun _ _ => False) s

section
variable {prog : Program} {w : World} {B : Heap} {n : Nat} {env : Env} {V : Vars} {H : AH}

theorem wpV.mono {t : Sem Value} {K K' : AV → AH → Prop} (h : wpV prog w B n env V H t K) (k : ∀ a H', K a H' → K' a H') : wpV prog w B n env V H t K' :=
  fun A s r i => wpAny_mono (h A s r i) (fun _ _ ⟨a, H', h1, h2⟩ => ⟨a, H', k a H' h1, h2⟩) fun _ _ e => e
theorem wpB.mono {t : Sem Bool} {K K' : Bool → AH → Prop} (h : wpB prog w B n env V H t K) (k : ∀ a H', K a H' → K' a H') : wpB prog w B n env V H t K' :=
  fun A s r i => wpAny_mono (h A s r i) (fun _ _ ⟨H', h1, h2⟩ => ⟨H', k _ H' h1, h2⟩) fun _ _ e => e

theorem stepV {A : Around} {s s₁ : Shared} {H₁ : AH} {t : Sem Value} {K : AV → AH → Prop} (r : Room A n) (i : Inv B env V H s) (x : Ext H s H₁ s₁) (h : wpV prog w B n env V H₁ t K) :
    wpAny (model prog w) A t (fun v s' => ∃ a H', K a H' ∧ VR s'.heap v a ∧ Ext H s H' s') (fun _ _ => False) s₁ :=
  wpAny_mono (h A s₁ r (x.inv i)) (fun _ _ ⟨a, H', h1, h2, h3⟩ => ⟨a, H', h1, h2, x.trans h3⟩) fun _ _ e => e
theorem stepO {A : Around} {s s₁ : Shared} {H₁ : AH} {l : List AV} {vs : List Value} {t : List Value → Sem Value} {K : AV → AH → Prop} (r : Room A n) (i : HI B H s.heap) (x : Ext H s H₁ s₁) (v : VRs s₁.heap vs l) (h : opV prog w B n l H₁ t K) :
    wpAny (model prog w) A (t vs) (fun v s' => ∃ a H', K a H' ∧ VR s'.heap v a ∧ Ext H s H' s') (fun _ _ => False) s₁ :=
  wpAny_mono (h A s₁ vs r (x.hi i) v) (fun _ _ ⟨a, H', h1, h2, h3⟩ => ⟨a, H', h1, h2, x.trans h3⟩) fun _ _ e => e

/-! leaves -/
theorem V_int {i : Int} {k : Nat} {pos : Pos} {K : AV → AH → Prop} (h : K (.int i) H) : wpV prog w B n env V H (eval (.Constant (.int i) k pos) env) K :=
  fun _ _ _ x => wpAny_Constant_int ⟨_, _, h, .int _ _, .toks x.hi _⟩
theorem V_str {i : Str} {k : Nat} {pos : Pos} {K : AV → AH → Prop} (h : K (.str i) H) : wpV prog w B n env V H (eval (.Constant (.str i) k pos) env) K :=
  fun _ _ _ x => wpAny_Constant_str ⟨_, _, h, .str _ _, .toks x.hi _⟩
theorem V_none {k : Nat} {pos : Pos} {K : AV → AH → Prop} (h : K .none H) : wpV prog w B n env V H (eval (.Constant .none k pos) env) K :=
  fun _ _ _ x => wpAny_Constant_none ⟨_, _, h, .none, .refl x.hi⟩
theorem V_bool {b : Bool} {k : Nat} {pos : Pos} {K : AV → AH → Prop} (h : K (.bool b) H) : wpV prog w B n env V H (eval (.Constant (.bool b) k pos) env) K :=
  fun _ _ _ x => wpAny_Constant_bool ⟨_, _, h, .bool _, .refl x.hi⟩

theorem V_local {x : Str} {pos : Pos} {a : AV} {K : AV → AH → Prop} (hv : V.lookup x = some a) (h : K a H)
    (hk : env.scope.kind = .function) (hx : env.kindOf x = some .local) (hd : (x == ("__debug__" : Str)) = false) : wpV prog w B n env V H (eval (.Name x pos) env) K := fun A s _ i => by
  obtain ⟨m, hm, q⟩ := i.ei.loc
  obtain ⟨u, h1, h2⟩ := q x a hv hx
  exact wpAny_Name (wpAny_loadName_local hk hx hm h1 ⟨_, _, h, h2, .refl i.hi⟩) hd
theorem V_cell {x : Str} {pos : Pos} {a : AV} {c : Addr} {K : AV → AH → Prop} (hv : V.lookup x = some a) (h : K a H) (hc : env.cells.lookup x = some c)
    (hk : env.scope.kind = .function) (hx : env.kindOf x = some .cell) (hd : (x == ("__debug__" : Str)) = false) : wpV prog w B n env V H (eval (.Name x pos) env) K := fun A s _ i => by
  obtain ⟨ob, u, h1, h2, h3⟩ := i.ei.cel x c hc
  obtain ⟨v, rfl, h4⟩ := h3 a hv (by rw [hx]; decide)
  exact wpAny_Name (wpAny_loadName_cell hk hx hc ⟨ob, h1, h2⟩ ⟨_, _, h, h4, .refl i.hi⟩) hd
theorem V_free {x : Str} {pos : Pos} {a : AV} {c : Addr} {K : AV → AH → Prop} (hv : V.lookup x = some a) (h : K a H) (hc : env.cells.lookup x = some c)
    (hk : env.scope.kind = .function) (hx : env.kindOf x = some .free) (hd : (x == ("__debug__" : Str)) = false) (hn : (x == ("__classdict__" : Str)) = false) : wpV prog w B n env V H (eval (.Name x pos) env) K := fun A s _ i => by
  obtain ⟨ob, u, h1, h2, h3⟩ := i.ei.cel x c hc
  obtain ⟨v, rfl, h4⟩ := h3 a hv (by rw [hx]; decide)
  exact wpAny_Name (wpAny_loadName_free hk hx hc ⟨ob, h1, h2⟩ ⟨_, _, h, h4, .refl i.hi⟩ hn) hd

/-! nodes -/
theorem V_BinOp {l r : Expr} {op : Operator} {pos : Pos} {K : AV → AH → Prop}
    (h : wpV prog w B n env V H (eval l env) (fun a H₁ => wpV prog w B n env V H₁ (eval r env) (fun b H₂ => opV prog w B n [a, b] H₂ (fun vs => binaryOp op (vs.getD 0 .none) (vs.getD 1 .none)) K))) :
    wpV prog w B n env V H (eval (.BinOp l op r pos) env) K := fun A s rm i => by
  refine wpAny_BinOp (wpAny_mono (h A s rm i) (fun v s₁ zz => ?_) fun _ _ e => e.elim)
  obtain ⟨a, H₁, h1, h2, h3⟩ := zz
  refine wpAny_mono (h1 A s₁ rm (h3.inv i)) (fun u s₂ zz => ?_) fun _ _ e => e.elim
  obtain ⟨b, H₂, k1, k2, k3⟩ := zz
  exact stepO rm i.hi (h3.trans k3) (.cons (h2.mono (k3.tk (h3.hi i.hi))) (.cons k2 .nil)) k1

theorem V_UnaryOp {x : Expr} {op : UnaryOp} {pos : Pos} {K : AV → AH → Prop}
    (h : wpV prog w B n env V H (eval x env) (fun a H₁ => opV prog w B n [a] H₁ (fun vs => unaryOp op (vs.getD 0 .none)) K)) :
    wpV prog w B n env V H (eval (.UnaryOp op x pos) env) K := fun A s rm i => by
  refine wpAny_UnaryOp (wpAny_mono (h A s rm i) (fun v s₁ zz => ?_) fun _ _ e => e.elim)
  obtain ⟨a, H₁, h1, h2, h3⟩ := zz
  exact stepO rm i.hi h3 (.cons h2 .nil) h1

theorem V_Compare {l r : Expr} {op : CmpOp} {pos : Pos} {K : AV → AH → Prop}
    (h : wpV prog w B n env V H (eval l env) (fun a H₁ => wpV prog w B n env V H₁ (eval r env) (fun b H₂ => opV prog w B n [a, b] H₂ (fun vs => compareOp op (vs.getD 0 .none) (vs.getD 1 .none)) K)))
    (hm : behindInMarks op r = false) :
    wpV prog w B n env V H (eval (.Compare l [op] [r] pos) env) K := fun A s rm i => by
  refine wpAny_Compare1 (wpAny_mono (h A s rm i) (fun v s₁ zz => ?_) fun _ _ e => e.elim) hm
  obtain ⟨a, H₁, h1, h2, h3⟩ := zz
  refine wpAny_mono (h1 A s₁ rm (h3.inv i)) (fun u s₂ zz => ?_) fun _ _ e => e.elim
  obtain ⟨b, H₂, k1, k2, k3⟩ := zz
  exact stepO rm i.hi (h3.trans k3) (.cons (h2.mono (k3.tk (h3.hi i.hi))) (.cons k2 .nil)) k1
end

theorem OR.there {h : Heap} {a : Addr} {o : AO} (x : OR h a o) : ∃ ob, h.get? a = some ob := by
  cases o with
  | lst l => obtain ⟨_, _, q, _⟩ := x; exact ⟨_, q⟩
  | arr l => obtain ⟨_, ⟨o, q, _⟩, _⟩ := x; exact ⟨_, q⟩
  | dic f n => obtain ⟨_, ⟨o, _, _, q, _⟩, _⟩ := x; exact ⟨_, q⟩

section
variable {B : Heap} {H : AH} {s : Shared}

theorem tk_of_keep {h h' : Heap} (hk : ∀ b o, h.get? b = some o → h'.get? b = some o) : TupKeep h h' := fun a _ _ x => hk a _ x

theorem Ext.grown (x : HI B H s.heap) {h' : Heap} {tk : Nat} (hk : ∀ b o, s.heap.get? b = some o → h'.get? b = some o) : Ext H s H { s with heap := h', toks := tk } :=
  ⟨⟨_, _, rfl⟩, fun b o e _ => hk b o e, fun b o e => ⟨o, hk b o e⟩, x.nd, fun e he => (x.hr e he).keep (tk_of_keep hk) fun ob q => hk _ _ q, fun e he => .inl ⟨e, he, rfl⟩⟩

theorem Ext.new (x : HI B H s.heap) {h' : Heap} {tk : Nat} {a : Addr} {o : AO} (hk : ∀ b o, s.heap.get? b = some o → h'.get? b = some o) (hf : s.heap.get? a = none) (ho : OR h' a o) :
    Ext H s ((a, o) :: H) { s with heap := h', toks := tk } := by
  have y := Ext.grown (tk := tk) x hk
  refine ⟨⟨_, _, rfl⟩, y.keep, y.stay, ?_, fun e he => ?_, fun e he => ?_⟩
  · rw [List.map_cons, List.nodup_cons]
    refine ⟨fun hm => ?_, x.nd⟩
    obtain ⟨e, he, q⟩ := List.mem_map.mp hm
    obtain ⟨ob, ho'⟩ := (x.hr e he).there
    have q' : e.1 = a := q
    rw [q', hf] at ho'; cases ho'
  · rcases List.mem_cons.mp he with rfl | he
    · exact ho
    · exact y.hr e he
  · rcases List.mem_cons.mp he with rfl | he
    · exact .inr hf
    · exact .inl ⟨e, he, rfl⟩

theorem push_keeps {h : Heap} {o : Obj} : ∀ b o', h.get? b = some o' → (h.push o).get? b = some o' := fun _ _ e => Heap.get?_push_of_some _ e
theorem size_fresh (h : Heap) : h.get? h.objs.size = none := by
  cases e : h.get? h.objs.size with
  | none => rfl
  | some o => exact absurd (Heap.lt_size e) (Nat.lt_irrefl _)

theorem Ext.newTup (x : HI B H s.heap) {tk : Nat} (vs : List Value) : Ext H s H { s with heap := s.heap.push { cls := .type "tuple", data := .seq vs.toArray }, toks := tk } := .grown x push_keeps
theorem VR.newTup {h : Heap} {vs : List Value} {l : List AV} (x : VRs h vs l) : VR (h.push { cls := .type "tuple", data := .seq vs.toArray }) (.ref h.objs.size) (.tup l) :=
  .tup (n := 0) (Heap.get?_push_size _ rfl) (x.mono (tk_of_keep push_keeps))
theorem Ext.newLst (x : HI B H s.heap) {tk : Nat} {vs : List Value} {l : List AV} (y : VRs s.heap vs l) :
    Ext H s ((s.heap.objs.size, .lst l) :: H) { s with heap := s.heap.push { cls := .type "list", data := .seq vs.toArray }, toks := tk } :=
  .new x push_keeps (size_fresh _) ⟨vs, 0, Heap.get?_push_size _ rfl, y.mono (tk_of_keep push_keeps)⟩

inductive Upd (a : Addr) (o o' : AO) : AH → AH → Prop
  | head {H : AH} : Upd a o o' ((a, o) :: H) ((a, o') :: H)
  | tail {e : Addr × AO} {H H' : AH} : Upd a o o' H H' → Upd a o o' (e :: H) (e :: H')
theorem Upd.keys {a : Addr} {o o' : AO} {H H' : AH} (u : Upd a o o' H H') : H'.map (·.1) = H.map (·.1) := by
  induction u with
  | head => rfl
  | tail _ ih => rw [List.map_cons, List.map_cons, ih]
theorem Upd.mem {a : Addr} {o o' : AO} {H H' : AH} (u : Upd a o o' H H') : (a, o) ∈ H := by
  induction u with
  | head => exact .head _
  | tail _ ih => exact .tail _ ih
theorem Upd.mem' {a : Addr} {o o' : AO} {H H' : AH} (u : Upd a o o' H H') : (a, o') ∈ H' := by
  induction u with
  | head => exact .head _
  | tail _ ih => exact .tail _ ih
theorem Upd.other {a : Addr} {o o' : AO} {H H' : AH} (u : Upd a o o' H H') (nd : (H.map (·.1)).Nodup) : ∀ e ∈ H', e = (a, o') ∨ (e ∈ H ∧ e.1 ≠ a) := by
  induction u with
  | head =>
    intro e he
    rw [List.map_cons, List.nodup_cons] at nd
    rcases List.mem_cons.mp he with rfl | he
    · exact .inl rfl
    · refine .inr ⟨.tail _ he, fun q => nd.1 (List.mem_map.mpr ⟨e, he, q⟩)⟩
  | tail u ih =>
    intro e he
    rw [List.map_cons, List.nodup_cons] at nd
    rcases List.mem_cons.mp he with rfl | he
    · refine .inr ⟨.head _, fun q => nd.1 (List.mem_map.mpr ⟨_, u.mem, q.symm⟩)⟩
    · rcases ih nd.2 e he with q | q
      · exact .inl q
      · exact .inr ⟨.tail _ q.1, q.2⟩
theorem Upd.append {a : Addr} {o o' : AO} {H H' : AH} (u : Upd a o o' H H') : ∀ X : AH, Upd a o o' (X ++ H) (X ++ H')
  | [] => u
  | _ :: X => .tail (u.append X)
theorem Upd.left {a : Addr} {o o' : AO} {H H' : AH} (u : Upd a o o' H H') (X : AH) : Upd a o o' (H ++ X) (H' ++ X) := by
  induction u with
  | head => exact .head
  | tail _ ih => exact .tail ih

theorem Ext.upd (x : HI B H s.heap) {h' : Heap} {tk : Nat} {a : Addr} {o o' : AO} {H' : AH} (u : Upd a o o' H H') (hk : ∀ b ob, b ≠ a → s.heap.get? b = some ob → h'.get? b = some ob) (ho : OR h' a o') :
    Ext H s H' { s with heap := h', toks := tk } := by
  have tkp : TupKeep s.heap h' := fun b vs n y => hk b _ (fun q => by subst q; exact (x.hr _ u.mem).notTup y) y
  refine ⟨⟨_, _, rfl⟩, fun b ob e k => hk b ob (fun q => k _ u.mem q.symm) e, fun b ob e => (if q : b = a then q ▸ ho.there else ⟨ob, hk b ob q e⟩), u.keys ▸ x.nd, fun e he => ?_, fun e he => ?_⟩
  · rcases u.other x.nd e he with rfl | ⟨h1, h2⟩
    · exact ho
    · exact (x.hr e h1).keep tkp fun ob q => hk _ _ h2 q
  · rcases u.other x.nd e he with rfl | ⟨h1, h2⟩
    · exact .inl ⟨_, u.mem, rfl⟩
    · exact .inl ⟨e, h1, rfl⟩
end

def Has (H : AH) (p : Addr) (l : List AV) : Prop := (p, .lst l) ∈ H ∨ (p, .arr l) ∈ H
theorem HI.list {B : Heap} {H : AH} {h : Heap} (x : HI B H h) {p : Addr} {l : List AV} (y : Has H p l) : ∃ vs, h.IsList p (List.toArray vs) ∧ VRs h vs l := by
  rcases y with y | y
  · exact (x.hr _ y).toArr
  · exact x.hr _ y

theorem VRs.two {h : Heap} {vs : List Value} {a b : AV} (x : VRs h vs [a, b]) : ∃ u v, vs = [u, v] ∧ VR h u a ∧ VR h v b := by
  cases x with | cons h1 h2 => cases h2 with | cons h2 h3 => cases h3; exact ⟨_, _, rfl, h1, h2⟩
theorem VRs.one {h : Heap} {vs : List Value} {a : AV} (x : VRs h vs [a]) : ∃ u, vs = [u] ∧ VR h u a := by
  cases x with | cons h1 h2 => cases h2; exact ⟨_, rfl, h1⟩
theorem VRs.zero {h : Heap} {vs : List Value} (x : VRs h vs []) : vs = [] := by cases x; rfl
theorem VR.toInt {h : Heap} {v : Value} {i : Int} (x : VR h v (.int i)) : ∃ t, v = .int i t := by cases x; exact ⟨_, rfl⟩
theorem VR.toRef {h : Heap} {v : Value} {a : Addr} (x : VR h v (.ref a)) : v = .ref a := by cases x; rfl
theorem VR.toBool {h : Heap} {v : Value} {b : Bool} (x : VR h v (.bool b)) : v = .bool b := by cases x; rfl

section
variable {prog : Program} {w : World} {B : Heap} {n : Nat} {H : AH} {K : AV → AH → Prop}

abbrev bin (op : Operator) : List Value → Sem Value := fun vs => binaryOp op (vs.getD 0 .none) (vs.getD 1 .none)
abbrev cmp (op : CmpOp) : List Value → Sem Value := fun vs => compareOp op (vs.getD 0 .none) (vs.getD 1 .none)
abbrev una (op : UnaryOp) : List Value → Sem Value := fun vs => unaryOp op (vs.getD 0 .none)

end

section
variable {prog : Program} {w : World} {B : Heap} {n : Nat} {H : AH} {K : AV → AH → Prop}

theorem O_add {i j : Int} (h : K (.int (i + j)) H) : opV prog w B n [.int i, .int j] H (bin .Add) K := fun A s vs r x v => by
  obtain ⟨_, _, rfl, h1, h2⟩ := v.two; obtain ⟨t, rfl⟩ := h1.toInt; obtain ⟨u, rfl⟩ := h2.toInt
  exact add_int ⟨_, _, h, .int _ _, .toks x _⟩
theorem O_sub {i j : Int} (h : K (.int (i - j)) H) : opV prog w B n [.int i, .int j] H (bin .Sub) K := fun A s vs r x v => by
  obtain ⟨_, _, rfl, h1, h2⟩ := v.two; obtain ⟨t, rfl⟩ := h1.toInt; obtain ⟨u, rfl⟩ := h2.toInt
  exact sub_int ⟨_, _, h, .int _ _, .toks x _⟩
theorem O_mul {i j : Int} (h : K (.int (i * j)) H) (hj : -(2 ^ 64) < i ∧ i < 2 ^ 64 ∨ -(2 ^ 64) < j ∧ j < 2 ^ 64) : opV prog w B n [.int i, .int j] H (bin .Mult) K := fun A s vs r x v => by
  obtain ⟨_, _, rfl, h1, h2⟩ := v.two; obtain ⟨t, rfl⟩ := h1.toInt; obtain ⟨u, rfl⟩ := h2.toInt
  exact PyProof.Rows.mul_int ⟨_, _, h, .int _ _, .toks x _⟩ (hj.elim (fun q => .of_left (intBits_le_64 q.1 q.2)) fun q => .of_right (intBits_le_64 q.1 q.2))
theorem noPy {i j : Int} (h0 : 0 < j) (h1 : j < 2 ^ 64) : Builtin.divisionGoesByPylong i j = false := by
  unfold Builtin.divisionGoesByPylong
  have hn : j.natAbs.log2 < 64 := (Nat.log2_lt (by omega)).mpr (by omega)
  have : ¬ ((if (j == 0) = true then 0 else j.natAbs.log2 / 30 + 1) > 300) := by split <;> omega
  simp only [decide_eq_false this, Bool.false_and]
theorem O_div {i j : Int} (h : K (.int (i / j)) H) (h0 : 0 < j) (h1 : j < 2 ^ 64) : opV prog w B n [.int i, .int j] H (bin .FloorDiv) K := fun A s vs r x v => by
  obtain ⟨_, _, rfl, h1', h2⟩ := v.two; obtain ⟨t, rfl⟩ := h1'.toInt; obtain ⟨u, rfl⟩ := h2.toInt
  refine PyProof.Rows.floordiv_int (by omega) ?_ (.inl (noPy h0 h1))
  rw [Int.fdiv_eq_ediv_of_nonneg _ (by omega)]
  exact ⟨_, _, h, .int _ _, .toks x _⟩
theorem O_mod {i j : Int} (h : K (.int (i % j)) H) (h0 : 0 < j) : opV prog w B n [.int i, .int j] H (bin .Mod) K := fun A s vs r x v => by
  obtain ⟨_, _, rfl, h1', h2⟩ := v.two; obtain ⟨t, rfl⟩ := h1'.toInt; obtain ⟨u, rfl⟩ := h2.toInt
  refine PyProof.Rows.mod_int (by omega) ?_
  rw [Int.fmod_eq_emod_of_nonneg _ (by omega)]
  exact ⟨_, _, h, .int _ _, .toks x _⟩
theorem O_pow {i : Int} {k : Nat} (h : K (.int (i ^ k)) H) (h0 : i.natAbs < 2 ^ 1000) (h1 : k ≤ 1000) : opV prog w B n [.int i, .int (k : Int)] H (bin .Pow) K := fun A s vs r x v => by
  obtain ⟨_, _, rfl, h1', h2⟩ := v.two; obtain ⟨t, rfl⟩ := h1'.toInt; obtain ⟨u, rfl⟩ := h2.toInt
  refine PyProof.Rows.pow_int (by omega) ?_ ?_
  · have := intBits_le h0
    have e : (Builtin.Int.intBits i : Int) ≤ 1000 := by omega
    have e2 : (k : Int) ≤ 1000 := by omega
    calc (Builtin.Int.intBits i : Int) * k ≤ 1000 * 1000 := Int.mul_le_mul e e2 (by omega) (by omega)
      _ ≤ 2 ^ 27 := by decide
  · rw [Int.toNat_natCast]; exact ⟨_, _, h, .int _ _, .toks x _⟩
theorem O_neg {i : Int} (h : K (.int (-i)) H) : opV prog w B n [.int i] H (una .USub) K := fun A s vs r x v => by
  obtain ⟨_, rfl, h1⟩ := v.one; obtain ⟨t, rfl⟩ := h1.toInt
  exact PyProof.Rows.neg_int ⟨_, _, h, .int _ _, .toks x _⟩
theorem O_lt {i j : Int} (h : K (.bool (decide (i < j))) H) : opV prog w B n [.int i, .int j] H (cmp .Lt) K := fun A s vs r x v => by
  obtain ⟨_, _, rfl, h1, h2⟩ := v.two; obtain ⟨t, rfl⟩ := h1.toInt; obtain ⟨u, rfl⟩ := h2.toInt
  exact PyProof.Rows.lt_int ⟨_, _, h, .bool _, .refl x⟩
theorem O_le {i j : Int} (h : K (.bool (decide (i ≤ j))) H) : opV prog w B n [.int i, .int j] H (cmp .LtE) K := fun A s vs r x v => by
  obtain ⟨_, _, rfl, h1, h2⟩ := v.two; obtain ⟨t, rfl⟩ := h1.toInt; obtain ⟨u, rfl⟩ := h2.toInt
  exact PyProof.Rows.le_int ⟨_, _, h, .bool _, .refl x⟩
theorem O_gt {i j : Int} (h : K (.bool (decide (j < i))) H) : opV prog w B n [.int i, .int j] H (cmp .Gt) K := fun A s vs r x v => by
  obtain ⟨_, _, rfl, h1, h2⟩ := v.two; obtain ⟨t, rfl⟩ := h1.toInt; obtain ⟨u, rfl⟩ := h2.toInt
  exact PyProof.Rows.gt_int ⟨_, _, h, .bool _, .refl x⟩
theorem O_ge {i j : Int} (h : K (.bool (decide (j ≤ i))) H) : opV prog w B n [.int i, .int j] H (cmp .GtE) K := fun A s vs r x v => by
  obtain ⟨_, _, rfl, h1, h2⟩ := v.two; obtain ⟨t, rfl⟩ := h1.toInt; obtain ⟨u, rfl⟩ := h2.toInt
  exact PyProof.Rows.ge_int ⟨_, _, h, .bool _, .refl x⟩
theorem O_eqi {i j : Int} (h : K (.bool (decide (i = j))) H) : opV prog w B n [.int i, .int j] H (cmp .Eq) K := fun A s vs r x v => by
  obtain ⟨_, _, rfl, h1, h2⟩ := v.two; obtain ⟨t, rfl⟩ := h1.toInt; obtain ⟨u, rfl⟩ := h2.toInt
  exact PyProof.Rows.eq_int ⟨_, _, h, by rw [show (i == j) = decide (i = j) from rfl]; exact .bool _, .refl x⟩
theorem O_nei {i j : Int} (h : K (.bool (!decide (i = j))) H) : opV prog w B n [.int i, .int j] H (cmp .NotEq) K := fun A s vs r x v => by
  obtain ⟨_, _, rfl, h1, h2⟩ := v.two; obtain ⟨t, rfl⟩ := h1.toInt; obtain ⟨u, rfl⟩ := h2.toInt
  exact PyProof.Rows.ne_int ⟨_, _, h, by rw [bne, show (i == j) = decide (i = j) from rfl]; exact .bool _, .refl x⟩

/-! deep comparison -/
mutual
noncomputable def AV.toP : AV → PyData
  | .none => .none
  | .bool b => .bool b
  | .int i => .int i
  | .str x => .str x
  | .tup l => .tuple (AV.toPs l)
  | .ref _ => .none
noncomputable def AV.toPs : List AV → List PyData
  | [] => []
  | a :: l => a.toP :: AV.toPs l
end
noncomputable def AV.ok : Nat → AV → Bool
  | _, .none => true
  | _, .int _ => true
  | _, .str x => PyData.strOk x
  | n + 1, .tup l => l.all (AV.ok n)
  | _, _ => false
theorem AV.ok_tup {n : Nat} {l : List AV} : AV.ok (n + 1) (.tup l) = l.all (AV.ok n) := by rw [AV.ok]
theorem AV.ok_in {n : Nat} {l : List AV} (h : AV.ok n (.tup l) = true) : ∃ m, n = m + 1 ∧ ∀ a ∈ l, AV.ok m a = true := by
  cases n with
  | zero => cases h
  | succ m => exact ⟨m, rfl, List.all_eq_true.mp (AV.ok_tup ▸ h)⟩
theorem AV.ok_no {n : Nat} : (∀ b, AV.ok n (.bool b) = false) ∧ ∀ p, AV.ok n (.ref p) = false := by
  cases n <;> exact ⟨fun _ => rfl, fun _ => rfl⟩
mutual
theorem AV.reads {h : Heap} : ∀ (a : AV) {n : Nat} {v : Value}, AV.ok n a = true → VR h v a → ∃ as, Reads h v a.toP as
  | .none, _, _, _, .none => ⟨[], by rw [AV.toP]; exact .none⟩
  | .int i, _, _, _, .int _ t => ⟨[], by rw [AV.toP]; exact .int i t⟩
  | .str x, _, _, _, .str _ t => ⟨[], by rw [AV.toP]; exact .str x t⟩
  | .bool b, _, _, k, _ => absurd k (by rw [AV.ok_no.1]; decide)
  | .ref p, _, _, k, _ => absurd k (by rw [AV.ok_no.2]; decide)
  | .tup l, _, _, k, .tup (vs := vs) hm r => by
    obtain ⟨_, _, k⟩ := AV.ok_in k
    obtain ⟨as, q⟩ := AV.readsL l k r
    rw [AV.toP]
    exact ⟨as, .tuple hm rfl rfl (by simpa using q)⟩
theorem AV.readsL {h : Heap} : ∀ (l : List AV) {n : Nat} {vs : List Value}, (∀ a ∈ l, AV.ok n a = true) → VRs h vs l → ∃ as, ReadsAll h vs (AV.toPs l) as
  | [], _, _, _, .nil => ⟨[], by rw [AV.toPs]; exact .nil⟩
  | a :: l, _, _, k, .cons x r => by
    obtain ⟨as, q⟩ := AV.reads a (k a (.head _)) x
    obtain ⟨bs, p⟩ := AV.readsL l (fun b hb => k b (.tail _ hb)) r
    rw [AV.toPs]
    exact ⟨_, .cons q p⟩
end
mutual
theorem AV.lay : ∀ (a : AV) {n : Nat}, AV.ok n a = true → a.toP.canLay0 = true ∧ a.toP.depth ≤ n
  | .none, _, _ => by rw [AV.toP]; exact ⟨rfl, Nat.zero_le _⟩
  | .int _, _, _ => by rw [AV.toP]; exact ⟨rfl, Nat.zero_le _⟩
  | .str x, n, k => by rw [AV.toP]; exact ⟨by cases n <;> exact k, Nat.zero_le _⟩
  | .bool b, _, k => absurd k (by rw [AV.ok_no.1]; decide)
  | .ref p, _, k => absurd k (by rw [AV.ok_no.2]; decide)
  | .tup l, _, k => by
    obtain ⟨m, rfl, j⟩ := AV.ok_in k
    rw [AV.toP, PyData.canLay0, PyData.depth]
    exact ⟨(AV.layL l j).1, Nat.succ_le_succ (AV.layL l j).2⟩
theorem AV.layL : ∀ (l : List AV) {m : Nat}, (∀ a ∈ l, AV.ok m a = true) → PyData.canLayAll0 (AV.toPs l) = true ∧ PyData.depthAll (AV.toPs l) ≤ m
  | [], m, _ => by rw [AV.toPs, PyData.depthAll]; exact ⟨rfl, Nat.zero_le m⟩
  | a :: l, m, k => by
    have x := AV.lay a (k a (.head _))
    have y := AV.layL l fun b hb => k b (.tail _ hb)
    rw [AV.toPs, PyData.canLayAll0, PyData.depthAll, x.1, y.1]
    exact ⟨rfl, Nat.max_le.mpr ⟨x.2, y.2⟩⟩
end
mutual
theorem AV.eqv_iff : ∀ (a b : AV) {n k : Nat}, AV.ok n a = true → AV.ok k b = true → (PyData.eqv a.toP b.toP = true ↔ a = b)
  | .bool _, _, _, _, x, _ => absurd x (by rw [AV.ok_no.1]; decide)
  | .ref _, _, _, _, x, _ => absurd x (by rw [AV.ok_no.2]; decide)
  | .tup l, b, _, _, x, y => by
    cases b with
    | tup r =>
      obtain ⟨_, _, x⟩ := AV.ok_in x
      obtain ⟨_, _, y⟩ := AV.ok_in y
      rw [AV.toP, AV.toP, PyData.eqv, AV.eqv_iffL l r x y, AV.tup.injEq]
    | bool _ => exact absurd y (by rw [AV.ok_no.1]; decide)
    | _ => simp [AV.toP, PyData.eqv]
  | .none, b, _, _, _, y => by
    cases b with
    | ref _ => exact absurd y (by rw [AV.ok_no.2]; decide)
    | _ => simp [AV.toP, PyData.eqv]
  | .int i, b, _, _, _, y => by
    cases b with
    | bool _ => exact absurd y (by rw [AV.ok_no.1]; decide)
    | _ => simp [AV.toP, PyData.eqv]
  | .str z, b, _, _, _, y => by cases b <;> simp [AV.toP, PyData.eqv]
theorem AV.eqv_iffL : ∀ (l r : List AV) {n k : Nat}, (∀ a ∈ l, AV.ok n a = true) → (∀ a ∈ r, AV.ok k a = true) → (PyData.eqvAll (AV.toPs l) (AV.toPs r) = true ↔ l = r)
  | [], r, _, _, _, _ => by cases r <;> simp [AV.toPs, PyData.eqvAll]
  | a :: l, [], _, _, _, _ => by simp [AV.toPs, PyData.eqvAll]
  | a :: l, b :: r, _, _, x, y => by
    rw [AV.toPs, AV.toPs, PyData.eqvAll, Bool.and_eq_true, List.cons.injEq, AV.eqv_iff a b (x a (.head _)) (y b (.head _)), AV.eqv_iffL l r (fun c hc => x c (.tail _ hc)) fun c hc => y c (.tail _ hc)]
end
end

theorem shaped_of {d : PyData} {n : Nat} (h : d.canLay0 = true ∧ d.depth ≤ n) (hn : n ≤ 20) : SeqAt.shaped d = true := by
  unfold SeqAt.shaped; rw [h.1, Bool.true_and]; exact decide_eq_true (Nat.le_trans h.2 (Nat.le_trans hn (by decide)))

inductive Rd (H : AH) : AV → PyData → Prop
  | pure {a : AV} {n : Nat} : AV.ok n a = true → n ≤ 8 → Rd H a a.toP
  | list {p : Addr} {l : List AV} {n : Nat} : Has H p l → (∀ a ∈ l, AV.ok n a = true) → n ≤ 8 → Rd H (.ref p) (.list (AV.toPs l))
  | two {p q : Addr} {l k : List AV} {n : Nat} : Has H p l → (∀ a ∈ l, AV.ok n a = true) → Has H q k → (∀ a ∈ k, AV.ok n a = true) → n ≤ 8 → Rd H (.tup [.ref p, .ref q]) (.tuple [.list (AV.toPs l), .list (AV.toPs k)])

theorem list_reads {B : Heap} {H : AH} {h : Heap} (x : HI B H h) {p : Addr} {l : List AV} {n : Nat} (y : Has H p l) (k : ∀ a ∈ l, AV.ok n a = true) : ∃ as, Reads h (.ref p) (.list (AV.toPs l)) as := by
  obtain ⟨vs, ⟨o, h1, h2, m, h3⟩, h4⟩ := x.list y
  obtain ⟨as, q⟩ := AV.readsL l k h4
  exact ⟨_, .list h1 h2 h3 (by simpa using q)⟩
theorem list_lay {l : List AV} {n : Nat} (k : ∀ a ∈ l, AV.ok n a = true) : (PyData.list (AV.toPs l)).canLay0 = true ∧ (PyData.list (AV.toPs l)).depth ≤ n + 2 := by
  have q := AV.layL l k
  simp only [PyData.canLay0, PyData.depth, q.1, true_and]
  have := q.2; omega

theorem pair_lay {X Y : PyData} {m : Nat} (l1 : X.canLay0 = true ∧ X.depth ≤ m) (l2 : Y.canLay0 = true ∧ Y.depth ≤ m) : (PyData.tuple [X, Y]).canLay0 = true ∧ (PyData.tuple [X, Y]).depth ≤ m + 1 := by
  have e1 := l1.2
  have e2 := l2.2
  simp only [PyData.canLay0, PyData.canLayAll0, PyData.depth, PyData.depthAll, l1.1, l2.1, Bool.and_self, true_and]
  omega
theorem Rd.reads {B : Heap} {H : AH} {h : Heap} (x : HI B H h) {a : AV} {d : PyData} {v : Value} (y : Rd H a d) (z : VR h v a) : (∃ as, Reads h v d as) ∧ SeqAt.shaped d = true := by
  cases y with
  | pure h1 h2 => exact ⟨AV.reads _ h1 z, shaped_of (AV.lay _ h1) (by omega)⟩
  | list h1 h2 h3 => cases z; exact ⟨list_reads x h1 h2, shaped_of (list_lay h2) (by omega)⟩
  | two h1 h2 h3 h4 h5 =>
    cases z with
    | tup t1 t2 =>
      obtain ⟨u, v, rfl, q1, q2⟩ := t2.two
      cases q1; cases q2
      obtain ⟨as, r1⟩ := list_reads x h1 h2
      obtain ⟨bs, r2⟩ := list_reads x h3 h4
      refine ⟨⟨_, .tuple t1 rfl rfl (.cons r1 (.cons r2 .nil))⟩, ?_⟩
      have l1 := list_lay h2
      have l2 := list_lay h4
      exact shaped_of (pair_lay l1 l2) (by omega)

section
variable {prog : Program} {w : World} {B : Heap} {n : Nat} {H : AH} {K : AV → AH → Prop}

theorem O_eqd {a b : AV} {d e : PyData} (ha : Rd H a d) (hb : Rd H b e) (h : K (.bool (PyData.eqv d e)) H) : opV prog w B n [a, b] H (cmp .Eq) K := fun A s vs r x v => by
  obtain ⟨u1, u2, rfl, h1, h2⟩ := v.two
  obtain ⟨⟨as, r1⟩, s1⟩ := ha.reads x h1
  obtain ⟨⟨bs, r2⟩, s2⟩ := hb.reads x h2
  exact eq_dataH r1 r2 s1 s2 r.units ⟨_, _, h, .bool _, .refl x⟩
theorem O_ned {a b : AV} {d e : PyData} (ha : Rd H a d) (hb : Rd H b e) (h : K (.bool (!PyData.eqv d e)) H) : opV prog w B n [a, b] H (cmp .NotEq) K := fun A s vs r x v => by
  obtain ⟨u1, u2, rfl, h1, h2⟩ := v.two
  obtain ⟨⟨as, r1⟩, s1⟩ := ha.reads x h1
  obtain ⟨⟨bs, r2⟩, s2⟩ := hb.reads x h2
  exact ne_dataH r1 r2 s1 s2 r.units ⟨_, _, h, .bool _, .refl x⟩

theorem bool_iff {t : Bool} {P : Prop} (h : t = true ↔ P) {K : Bool → Prop} (k : ∀ t : Bool, (t = true ↔ P) → K t) : K t := k t h

theorem O_eq {a b : AV} (m : Nat) (ha : AV.ok m a = true) (hb : AV.ok m b = true) (hm : m ≤ 8) (h : ∀ t : Bool, (t = true ↔ a = b) → K (.bool t) H) : opV prog w B n [a, b] H (cmp .Eq) K :=
  O_eqd (.pure ha hm) (.pure hb hm) (h _ (AV.eqv_iff a b ha hb))
theorem O_ne {a b : AV} (m : Nat) (ha : AV.ok m a = true) (hb : AV.ok m b = true) (hm : m ≤ 8) (h : ∀ t : Bool, (t = true ↔ a ≠ b) → K (.bool t) H) : opV prog w B n [a, b] H (cmp .NotEq) K :=
  O_ned (.pure ha hm) (.pure hb hm) (h _ (by have q := AV.eqv_iff a b ha hb; cases e : PyData.eqv a.toP b.toP <;> simp_all))
theorem O_eqL {p q : Addr} {l k : List AV} (m : Nat) (hp : Has H p l) (hl : ∀ a ∈ l, AV.ok m a = true) (hq : Has H q k) (hk : ∀ a ∈ k, AV.ok m a = true) (hm : m ≤ 8) (h : ∀ t : Bool, (t = true ↔ l = k) → K (.bool t) H) :
    opV prog w B n [.ref p, .ref q] H (cmp .Eq) K :=
  O_eqd (.list hp hl hm) (.list hq hk hm) (h _ (by simp only [PyData.eqv]; exact AV.eqv_iffL _ _ hl hk))
theorem O_neL {p q : Addr} {l k : List AV} (m : Nat) (hp : Has H p l) (hl : ∀ a ∈ l, AV.ok m a = true) (hq : Has H q k) (hk : ∀ a ∈ k, AV.ok m a = true) (hm : m ≤ 8) (h : ∀ t : Bool, (t = true ↔ l ≠ k) → K (.bool t) H) :
    opV prog w B n [.ref p, .ref q] H (cmp .NotEq) K :=
  O_ned (.list hp hl hm) (.list hq hk hm) (h _ (by
    have z := AV.eqv_iffL _ _ hl hk
    simp only [PyData.eqv]
    cases e : PyData.eqvAll (AV.toPs l) (AV.toPs k) <;> simp_all))
theorem O_neT {p q p' q' : Addr} {l k l' k' : List AV} (m : Nat) (hp : Has H p l) (hl : ∀ a ∈ l, AV.ok m a = true) (hq : Has H q k) (hk : ∀ a ∈ k, AV.ok m a = true)
    (hp' : Has H p' l') (hl' : ∀ a ∈ l', AV.ok m a = true) (hq' : Has H q' k') (hk' : ∀ a ∈ k', AV.ok m a = true) (hm : m ≤ 8) (h : ∀ t : Bool, (t = true ↔ ¬ (l = l' ∧ k = k')) → K (.bool t) H) :
    opV prog w B n [.tup [.ref p, .ref q], .tup [.ref p', .ref q']] H (cmp .NotEq) K :=
  O_ned (.two hp hl hq hk hm) (.two hp' hl' hq' hk' hm) (h _ (by
    have z := AV.eqv_iffL _ _ hl hl'
    have z' := AV.eqv_iffL _ _ hk hk'
    simp only [PyData.eqv, PyData.eqvAll, Bool.and_true]
    cases e : PyData.eqvAll (AV.toPs l) (AV.toPs l') <;> cases e' : PyData.eqvAll (AV.toPs k) (AV.toPs k') <;> simp_all))

theorem any_eqv {m : Nat} {x : AV} (hx : AV.ok m x = true) : ∀ {l : List AV}, (∀ a ∈ l, AV.ok m a = true) → (((AV.toPs l).any fun y => PyData.eqv y x.toP) = true ↔ x ∈ l)
  | [], _ => by simp [AV.toPs]
  | a :: l, h => by
    have ih := any_eqv hx (l := l) fun b hb => h b (.tail _ hb)
    have q := AV.eqv_iff a x (h a (.head _)) hx
    rw [AV.toPs, List.any_cons, Bool.or_eq_true, ih, q, List.mem_cons]
    exact or_congr_left eq_comm
theorem O_notInL {x : AV} {p : Addr} {l : List AV} (m : Nat) (hp : Has H p l) (hl : ∀ a ∈ l, AV.ok m a = true) (hx : AV.ok m x = true) (hm : m ≤ 8) (h : ∀ t : Bool, (t = true ↔ x ∉ l) → K (.bool t) H) :
    opV prog w B n [x, .ref p] H (cmp .NotIn) K := fun A s vs r hi v => by
  obtain ⟨u1, u2, rfl, h1, h2⟩ := v.two
  obtain rfl := h2.toRef
  obtain ⟨as, r1⟩ := list_reads hi hp hl
  obtain ⟨bs, r2⟩ := AV.reads x hx h1
  have l1 := AV.layL l hl
  have l2 := AV.lay x hx
  refine SeqAt.notIn_list_reads r1 r2 l1.1 l2.1 ?_ ⟨_, _, h _ ?_, .bool _, .refl hi⟩
  · have := Nat.min_le_right (PyData.depthAll (AV.toPs l)) x.toP.depth
    have := r.units
    have := l2.2
    omega
  · have q := any_eqv hx hl
    cases e : ((AV.toPs l).any fun y => PyData.eqv y x.toP) <;> simp_all

/-! dicts of ints -/
theorem HI.dic {h : Heap} (x : HI B H h) {p : Addr} {f : Int → Option AV} {m : Nat} (y : (p, .dic f m) ∈ H) : ∃ g, h.IntMap p g ∧ h.DictLe p m ∧ ∀ k, match f k with | Option.none => g k = Option.none | some x => ∃ v, g k = some v ∧ VR h v x := x.hr _ y
theorem O_in {k : Int} {p : Addr} {f : Int → Option AV} {m : Nat} (hp : (p, .dic f m) ∈ H) (h : K (.bool (f k).isSome) H) : opV prog w B n [.int k, .ref p] H (cmp .In) K := fun A s vs r x v => by
  obtain ⟨_, _, rfl, h1, h2⟩ := v.two; obtain ⟨t, rfl⟩ := h1.toInt; obtain rfl := h2.toRef
  obtain ⟨g, g1, g2, g3⟩ := x.dic hp
  refine wpAny_in_intMap g1 ⟨_, _, h, ?_, .toks x _⟩
  have q := g3 k
  cases e : f k with
  | none => rw [e] at q; simp only at q; rw [q]; exact .bool _
  | some y => rw [e] at q; simp only at q; obtain ⟨z, q1, _⟩ := q; rw [q1]; exact .bool _

theorem notIn_of_in {M : Model} {A : Around} {E : Value → Shared → Prop} {s : Shared} {k c : Value} {Q : Value → Shared → Prop} (h : wpAny M A (compareOp .In k c) (fun v s' => ∃ b, v = .bool b ∧ Q (.bool !b) s') E s) :
    wpAny M A (compareOp .NotIn k c) Q E s := fun Γ p hΓ => by
  have h' := h Γ p hΓ
  change Sem.wp M Γ (contains c k >>= fun t => pure (Value.bool t)) _ _ p s at h'
  show Sem.wp M Γ (contains c k >>= fun t => pure (Value.bool !t)) _ _ p s
  rw [Sem.wp_bind'] at h' ⊢
  refine Sem.wp_mono M Γ _ (fun t p' s' z => ?_) (fun _ _ _ z => z) p s h'
  obtain ⟨b, e, q⟩ : ∃ b, Value.bool t = .bool b ∧ Q (.bool !b) s' := z
  cases e; exact q
theorem O_notIn {k : Int} {p : Addr} {f : Int → Option AV} {m : Nat} (hp : (p, .dic f m) ∈ H) (h : K (.bool !(f k).isSome) H) : opV prog w B n [.int k, .ref p] H (cmp .NotIn) K := fun A s vs r x v => by
  refine notIn_of_in (wpAny_mono (O_in (prog := prog) (w := w) (n := n) (K := fun a H' => a = .bool (f k).isSome ∧ H' = H) hp ⟨rfl, rfl⟩ A s vs r x v) (fun v s' ⟨a, H', ⟨h1, h2⟩, h3, h4⟩ => ?_) fun _ _ e => e)
  subst h1; subst h2
  obtain rfl := h3.toBool
  exact ⟨_, rfl, _, _, h, .bool _, h4⟩

/-! sequences -/
theorem O_addL {p q : Addr} {l k : List AV} (hp : (p, .lst l) ∈ H) (hq : (q, .lst k) ∈ H) (hz : l.length + k.length ≤ 1000000) (h : ∀ a, K (.ref a) ((a, .lst (l ++ k)) :: H)) : opV prog w B n [.ref p, .ref q] H (bin .Add) K := fun A s vs r x v => by
  obtain ⟨_, _, rfl, h1, h2⟩ := v.two; obtain rfl := h1.toRef; obtain rfl := h2.toRef
  obtain ⟨us, m, u1, u2⟩ := x.hr _ hp
  obtain ⟨ws, m', w1, w2⟩ := x.hr _ hq
  have e1 := u2.length
  have e2 := w2.length
  refine P.add_list u1 w1 ?_ (by rw [List.size_toArray, List.size_toArray, sizeLine_eq]; omega)
  rw [List.append_toArray]
  exact ⟨_, _, h _, .ref _, .newLst x (u2.append w2)⟩
theorem O_addT {l k : List AV} (hl : l ≠ []) (hk : k ≠ []) (hz : l.length + k.length ≤ 1000000) (h : K (.tup (l ++ k)) H) : opV prog w B n [.tup l, .tup k] H (bin .Add) K := fun A s vs r x v => by
  obtain ⟨_, _, rfl, h1, h2⟩ := v.two
  cases h1 with
  | tup u1 u2 =>
    cases h2 with
    | tup w1 w2 =>
      have e1 := u2.length
      have e2 := w2.length
      refine P.add_tuple u1 w1 ?_ ?_ ?_ (by rw [List.size_toArray, List.size_toArray, sizeLine_eq]; omega)
      · rw [List.isEmpty_toArray]; intro q; rw [List.isEmpty_iff] at q; subst q; exact hl (List.length_eq_zero_iff.mp e1.symm)
      · rw [List.isEmpty_toArray]; intro q; rw [List.isEmpty_iff] at q; subst q; exact hk (List.length_eq_zero_iff.mp e2.symm)
      · rw [List.append_toArray]
        exact ⟨_, _, h, .newTup (u2.append w2), .newTup x _⟩

theorem O_rep {p : Addr} {a : AV} {k : Nat} (hp : (p, .lst [a]) ∈ H) (hk : k ≤ 1000) (h : ∀ q, K (.ref q) ((q, .lst (List.replicate k a)) :: H)) : opV prog w B n [.ref p, .int (k : Int)] H (bin .Mult) K := fun A s vs r x v => by
  obtain ⟨_, _, rfl, h1, h2⟩ := v.two; obtain rfl := h1.toRef; obtain ⟨t, rfl⟩ := h2.toInt
  obtain ⟨us, m, u1, u2⟩ := x.hr _ hp
  obtain ⟨u, rfl, u3⟩ := u2.one
  have T : s.TypeIs (.ref p) "list" := ⟨_, u1, rfl⟩
  have I := fun s' => typeIs_int s' (k : Int) t
  refine wpAny_binaryOp_repeat_ref (T := "list") (by decide) T I noFill_list_mul F.fills_int_mul F.slot_int_rmul repeat_list F.slot_int_index.lookup ?_
  refine call_meets F.slot_int_rmul (I s) F.entry_int_rmul (F.args_int_rmul_2 _ _) (int___rmul___int_list _ t p _ m) ⟨u1, rfl, T, ?_⟩
  refine call_meets F.slot_list_mul T F.entry_list_mul (F.args_list_mul_2 _ _) (AutoListH.list___mul___list_int_3 p _ m _ t ?_ ?_ ?_) ⟨u1, ?_⟩
  · simp only [Builtin.List.listFitsIndex]
    simp
    omega
  · rw [Int.toNat_natCast]
    show ¬ 1 * k > _
    omega
  · rw [Int.toNat_natCast]
    show ¬ Builtin.List.listTooLong (1 * k) = true
    simp only [Builtin.List.listTooLong, sizeLine_eq, decide_eq_true_eq]
    omega
  · rw [listMul_foldl_if, Int.toNat_natCast]
    refine ⟨_, _, h _, .ref _, .newLst x ?_⟩
    rw [show [u].toArray.toList = [u] from rfl, List.flatten_replicate_singleton]
    exact VRs.replicate u3 k
end

section
variable {prog : Program} {w : World} {B : Heap} {n : Nat} {env : Env} {V : Vars} {H : AH} {K : AV → AH → Prop}

/-! displays and argument lists -/
theorem L_nil {pos : Pos} {K : List AV → AH → Prop} (h : K [] H) : wpL prog w B n env V H (spliced (backTo pos (starEach [] env))) K :=
  fun _ _ _ x => spliced_nil ⟨_, _, h, .nil, .refl x.hi⟩
theorem L_cons {e : Expr} {rest : List Expr} {pos : Pos} {K : List AV → AH → Prop}
    (h : wpV prog w B n env V H (eval e env) (fun a H₁ => wpL prog w B n env V H₁ (spliced (backTo pos (starEach rest env))) (fun l H₂ => K (a :: l) H₂)))
    (he : starEach (e :: rest) env = (false, eval e env) :: starEach rest env) : wpL prog w B n env V H (spliced (backTo pos (starEach (e :: rest) env))) K := fun A s r x => by
  rw [he]
  refine spliced_cons (wpAny_mono (h A s r x) (fun v s₁ zz => ?_) fun _ _ e => e.elim)
  obtain ⟨a, H₁, h1, h2, h3⟩ := zz
  exact wpAny_mono (h1 A s₁ r (h3.inv x)) (fun vs s₂ ⟨l, H₂, k1, k2, k3⟩ => ⟨_, _, k1, .cons (h2.mono (k3.tk (h3.hi x.hi))) k2, h3.trans k3⟩) fun _ _ e => e

theorem V_Tuple {elts : List Expr} {k : Nat} {pos : Pos} (h : wpL prog w B n env V H (spliced (backTo pos (starEach elts env))) (fun l H₁ => l.length ≤ 1000 ∧ K (.tup l) H₁)) :
    wpV prog w B n env V H (eval (.Tuple elts k pos) env) K := fun A s r x => by
  refine Tuple_ (wpAny_mono (h A s r x) (fun vs s₁ zz => ?_) fun _ _ e => e)
  obtain ⟨l, H₁, ⟨h0, h1⟩, h2, h3⟩ := zz
  have e1 := h2.length
  exact wpAny_newObj_type ⟨_, _, h1, .newTup h2, h3.trans (.newTup (h3.hi x.hi) _)⟩ (by show vs.toArray.size ≤ sizeLine; rw [List.size_toArray, sizeLine_eq]; omega)
theorem V_List {elts : List Expr} {pos : Pos} (h : wpL prog w B n env V H (spliced (backTo pos (starEach elts env))) (fun l H₁ => l.length ≤ 1000 ∧ ∀ a, K (.ref a) ((a, .lst l) :: H₁))) :
    wpV prog w B n env V H (eval (.List elts pos) env) K := fun A s r x => by
  refine List_ (wpAny_mono (h A s r x) (fun vs s₁ zz => ?_) fun _ _ e => e)
  obtain ⟨l, H₁, ⟨h0, h1⟩, h2, h3⟩ := zz
  have e1 := h2.length
  exact wpAny_newObj_type ⟨_, _, h1 _, .ref _, h3.trans (.newLst (h3.hi x.hi) h2)⟩ (by show vs.toArray.size ≤ sizeLine; rw [List.size_toArray, sizeLine_eq]; omega)
theorem V_Dict {pos : Pos} (h : ∀ a, K (.ref a) ((a, .dic (fun _ => Option.none) 0) :: H)) : wpV prog w B n env V H (eval (.Dict [] [] pos) env) K := fun A s r x =>
  wpAny_Dict_empty ⟨_, _, h _, .ref _, .new x.hi push_keeps (size_fresh _)
    ⟨fun _ => Option.none, ⟨_, #[], 0, Heap.get?_push_size _ rfl, rfl, rfl, fun _ he => by simp at he, fun _ => rfl⟩, fun o es ep ho hd => by
      rw [Heap.get?_push_size _ rfl] at ho; injection ho with ho; subst ho; injection hd with hd; subst hd; exact Nat.le_refl _, fun _ => rfl⟩⟩

/-! items -/
def getP (prog : Program) (w : World) (B : Heap) (n : Nat) (value slice : Expr) (a b : AV) (H : AH) (K : AV → AH → Prop) : Prop :=
  ∀ A s v u, Room A n → HI B H s.heap → VR s.heap v a → VR s.heap u b → wpAny (model prog w) A (subscriptTail value slice v u) (fun v s' => ∃ a H', K a H' ∧ VR s'.heap v a ∧ Ext H s H' s') (fun _ _ => False) s

theorem V_Sub {value slice : Expr} {pos : Pos} (h : wpV prog w B n env V H (eval value env) (fun a H₁ => wpV prog w B n env V H₁ (eval slice env) (fun b H₂ => getP prog w B n value slice a b H₂ K))) :
    wpV prog w B n env V H (eval (.Subscript value slice pos) env) K := fun A s r x => by
  refine Subscript_ (wpAny_mono (h A s r x) (fun v s₁ zz => ?_) fun _ _ e => e.elim)
  obtain ⟨a, H₁, h1, h2, h3⟩ := zz
  refine wpAny_mono (h1 A s₁ r (h3.inv x)) (fun u s₂ zz => ?_) fun _ _ e => e.elim
  obtain ⟨b, H₂, k1, k2, k3⟩ := zz
  exact wpAny_mono (k1 A s₂ v u r ((h3.trans k3).hi x.hi) (h2.mono (k3.tk (h3.hi x.hi))) k2) (fun _ _ ⟨c, H₃, q1, q2, q3⟩ => ⟨c, H₃, q1, q2, (h3.trans k3).trans q3⟩) fun _ _ e => e

theorem G_list {value slice : Expr} {p : Addr} {l : List AV} {k : Int} {j : Nat} {x : AV} (hp : Has H p l) (h0 : k = (j : Int)) (hx : l[j]? = some x) (hs : ∀ o i, subscripted slice false o i = operate [o, i] (getItem o i)) (hz : j < 1000000)
    (h : K x H) : getP prog w B n value slice (.ref p) (.int k) H K := fun A s v u r hi hv hu => by
  subst h0
  obtain rfl := hv.toRef; obtain ⟨t, rfl⟩ := hu.toInt
  obtain ⟨vs, hl, q⟩ := hi.list hp
  obtain ⟨y, y1, y2⟩ := q.get hx
  exact tail_any hl.typeIs slot_list_getitem.lookup (wpAny_getItem_list hl (by omega) (by omega) (by simpa using y1) ⟨_, _, h, y2, .refl hi⟩) (hs _ _)
theorem G_neg {value slice : Expr} {p : Addr} {l : List AV} {k : Int} {j : Nat} {x : AV} (hp : Has H p l) (h0 : k < 0) (h1 : k + l.length = (j : Int)) (hx : l[j]? = some x) (hs : ∀ o i, subscripted slice false o i = operate [o, i] (getItem o i)) (hz : l.length < 1000000)
    (h : K x H) : getP prog w B n value slice (.ref p) (.int k) H K := fun A s v u r hi hv hu => by
  obtain rfl := hv.toRef; obtain ⟨t, rfl⟩ := hu.toInt
  obtain ⟨vs, hl, q⟩ := hi.list hp
  obtain ⟨y, y1, y2⟩ := q.get hx
  have e := q.length
  refine tail_any hl.typeIs slot_list_getitem.lookup (wpAny_getItem_list_neg hl h0 (by rw [List.size_toArray, e]; omega) (by omega) ?_ ⟨_, _, h, y2, .refl hi⟩) (hs _ _)
  rw [List.size_toArray, e, h1, Int.toNat_natCast]; simpa using y1
theorem G_tup {value slice : Expr} {l : List AV} {k : Int} {j : Nat} {x : AV} (h0 : k = (j : Int)) (hx : l[j]? = some x) (hs : ∀ o i, subscripted slice false o i = operate [o, i] (getItem o i)) (hz : j < 1000000)
    (h : K x H) : getP prog w B n value slice (.tup l) (.int k) H K := fun A s v u r hi hv hu => by
  subst h0
  obtain ⟨t, rfl⟩ := hu.toInt
  cases hv with
  | tup q1 q2 =>
    obtain ⟨y, y1, y2⟩ := q2.get hx
    have e := q2.length
    have hj : j < l.length := by
      rcases Nat.lt_or_ge j l.length with q | q
      · exact q
      · rw [List.getElem?_eq_none q] at hx; cases hx
    exact tail_any ⟨_, q1, rfl⟩ F.slot_tuple_getitem.lookup (P.getItem_tuple q1 (by omega) (by omega) (seqIndex_of (by omega) (by rw [List.size_toArray]; omega)) (by simpa using y1) ⟨_, _, h, y2, .refl hi⟩) (hs _ _)
theorem G_dic {value slice : Expr} {p : Addr} {f : Int → Option AV} {m : Nat} {k : Int} {x : AV} (hp : (p, .dic f m) ∈ H) (hx : f k = some x) (hs : ∀ o i, subscripted slice false o i = operate [o, i] (getItem o i))
    (h : K x H) : getP prog w B n value slice (.ref p) (.int k) H K := fun A s v u r hi hv hu => by
  obtain rfl := hv.toRef; obtain ⟨t, rfl⟩ := hu.toInt
  obtain ⟨g, g1, g2, g3⟩ := hi.dic hp
  have q := g3 k
  rw [hx] at q
  obtain ⟨y, y1, y2⟩ := q
  have T : s.TypeIs (.ref p) "dict" := by obtain ⟨o, _, _, ho, hc, _⟩ := g1; exact ⟨o, ho, hc⟩
  exact tail_any T slot_dict_getitem.lookup (wpAny_getItem_intMap g1 y1 ⟨_, _, h, y2, .toks hi _⟩) (hs _ _)

/-! slices of lists -/
def partE (prog : Program) (w : World) (B : Heap) (n : Nat) (env : Env) (V : Vars) (H : AH) (e : Option Expr) (K : Option Int → AH → Prop) : Prop :=
  ∀ A s, Room A n → Inv B env V H s → wpAny (model prog w) A (evalPart e env) (fun v s' => ∃ i H', K i H' ∧ IsPart v i ∧ Ext H s H' s') (fun _ _ => False) s
theorem P_none {K : Option Int → AH → Prop} (h : K Option.none H) : partE prog w B n env V H Option.none K := fun A s r x => wpAny_pure ⟨_, _, h, .none, .refl x.hi⟩
theorem P_some {e : Expr} {K : Option Int → AH → Prop} (h : wpV prog w B n env V H (eval e env) (fun a H₁ => ∃ i, a = .int i ∧ K (some i) H₁)) : partE prog w B n env V H (some e) K := fun A s r x => by
  rw [evalPart_some]
  refine wpAny_mono (h A s r x) (fun v s' ⟨a, H', ⟨i, e, k⟩, h2, h3⟩ => ?_) fun _ _ e => e
  subst e; obtain ⟨t, rfl⟩ := h2.toInt
  exact ⟨_, _, k, .int _ _, h3⟩

noncomputable def cut (l : List AV) : Option Int → Option Int → Option (List AV)
  | Option.none, Option.none => some l
  | some a, Option.none => if 0 ≤ a then some (l.drop a.toNat) else Option.none
  | Option.none, some b => if 0 ≤ b then some (l.take b.toNat) else Option.none
  | some a, some b => if 0 ≤ a ∧ a ≤ b ∧ b ≤ l.length then some ((l.drop a.toNat).take (b.toNat - a.toNat)) else Option.none
theorem cut_pick {h : Heap} {vs : List Value} {l k : List AV} (x : VRs h vs l) : ∀ {a b : Option Int}, cut l a b = some k → ∃ ws : List Value, slicePick vs.toArray a b Option.none = ws.toArray ∧ VRs h ws k
  | Option.none, Option.none, e => by cases e; exact ⟨vs, slicePick_all _, x⟩
  | some a, Option.none, e => by
    simp only [cut] at e
    split at e
    · rename_i h0
      cases e
      obtain ⟨a, rfl⟩ := Int.eq_ofNat_of_zero_le h0
      exact ⟨vs.drop a, by rw [slicePick_from'], x.drop a⟩
    · cases e
  | Option.none, some b, e => by
    simp only [cut] at e
    split at e
    · rename_i h0
      cases e
      obtain ⟨b, rfl⟩ := Int.eq_ofNat_of_zero_le h0
      exact ⟨vs.take b, by rw [slicePick_upto'], x.take b⟩
    · cases e
  | some a, some b, e => by
    simp only [cut] at e
    split at e
    · rename_i h0
      cases e
      obtain ⟨a, rfl⟩ := Int.eq_ofNat_of_zero_le h0.1
      obtain ⟨b, rfl⟩ := Int.eq_ofNat_of_zero_le (Int.le_trans h0.1 h0.2.1)
      have e1 := x.length
      refine ⟨(vs.drop a).take (b - a), ?_, (x.drop a).take _⟩
      rw [slicePick_run vs.toArray a b (by rw [List.size_toArray]; omega) (by omega)]
    · cases e
theorem V_Slice {value : Expr} {lower upper : Option Expr} {p pos : Pos}
    (h : wpV prog w B n env V H (eval value env) (fun a H₁ => partE prog w B n env V H₁ lower (fun i H₂ => partE prog w B n env V H₂ upper (fun j H₃ =>
      ∃ q l k, a = .ref q ∧ Has H₃ q l ∧ l.length ≤ 1000000 ∧ cut l i j = some k ∧ ∀ b, K (.ref b) ((b, .lst k) :: H₃)))))
    (ht : ∀ o r, letTemporaryGo value o r = pure ()) : wpV prog w B n env V H (eval (.Subscript value (.Slice lower upper Option.none p) pos) env) K := fun A s r x => by
  refine wpAny_Subscript_list_slice (wpAny_mono (h A s r x) (fun v s₁ zz => ?_) fun _ _ e => e.elim) ht
  obtain ⟨a, H₁, h1, h2, h3⟩ := zz
  refine wpAny_mono (h1 A s₁ r (h3.inv x)) (fun vl s₂ zz => ?_) fun _ _ e => e.elim
  obtain ⟨i, H₂, k1, k2, k3⟩ := zz
  refine wpAny_mono (k1 A s₂ r ((h3.trans k3).inv x)) (fun vu s₃ zz => ?_) fun _ _ e => e.elim
  obtain ⟨j, H₃, ⟨q, l, k, e1, e2, e3, e4, e5⟩, m2, m3⟩ := zz
  subst e1; obtain rfl := h2.toRef
  have E3 := (h3.trans k3).trans m3
  have hi := E3.hi x.hi
  obtain ⟨vs, hl, hv⟩ := hi.list e2
  obtain ⟨ws, c1, c2⟩ := cut_pick hv e4
  have e1 := hv.length
  refine ⟨q, vs.toArray, i, j, rfl, hl, by rw [List.size_toArray, e1]; exact Nat.le_trans e3 (by decide), k2, m2, .ref (s₃.heap.objs.size + 1), _, e5 _, .ref _, E3.trans ?_⟩
  rw [c1]
  refine Ext.new hi (fun b o e => push_keeps _ _ (push_keeps _ _ e)) ?_ ⟨ws, 0, ?_, c2.mono (tk_of_keep fun b o e => push_keeps _ _ (push_keeps _ _ e))⟩
  · cases e : s₃.heap.get? (s₃.heap.objs.size + 1) with
    | none => rfl
    | some o => exact absurd (Heap.lt_size e) (Nat.not_lt.mpr (Nat.le_succ _))
  · have z := Heap.get?_push_size (s₃.heap.push { cls := .type "slice", data := .fields #[vl, vu, .none] }) (o := { cls := .type "list", data := .seq ws.toArray }) rfl
    rw [Heap.size_push] at z; exact z
end

structure Gl (B : Heap) (mg mb : Str → Option Value) : Prop where
  g : B.Ns mainGlobals mg
  b : B.Ns builtinsNs mb
  bi : ∀ x : Str, x ≠ ("__name__" : Str) → mb x = bootBuiltins x
  nl : B.NoLimit

theorem ns_keep {h h' : Heap} {a : Addr} {m : Str → Option Value} (x : h.Ns a m) (k : ∀ b o, h.get? b = some o → h'.get? b = some o) : h'.Ns a m := x.at' fun o e => k _ o e

structure Plain (env : Env) : Prop where
  k : env.scope.kind = .function
  g : env.globals = mainGlobals
  b : env.builtins = builtinsNs

section
variable {prog : Program} {w : World} {B : Heap} {n : Nat} {env : Env} {V : Vars} {H : AH} {K : AV → AH → Prop} {mg mb : Str → Option Value}

theorem name_builtin {A : Around} {s : Shared} {E : Value → Shared → Prop} {Q : Value → Shared → Prop} {x : Str} {p : Pos} {v : Value} (G : Gl B mg mb) (P : Plain env) (i : Inv B env V H s) (hm : mg x = none) (hb : bootBuiltins x = some v) (hn : x ≠ ("__name__" : Str))
    (hx : env.kindOf x = some .globalImplicit) (hd : (x == ("__debug__" : Str)) = false) (h : Q v s) : wpAny (model prog w) A (eval (.Name x p) env) Q E s :=
  Name_function_global P.k hx (loadGlobal_builtin (by rw [P.g]; exact ns_keep G.g i.hi.keep) hm (by rw [P.b]; exact ns_keep G.b i.hi.keep) ((G.bi x hn).trans hb) h) hd
theorem name_global {A : Around} {s : Shared} {E : Value → Shared → Prop} {Q : Value → Shared → Prop} {x : Str} {p : Pos} {v : Value} (G : Gl B mg mb) (P : Plain env) (i : Inv B env V H s) (hm : mg x = some v)
    (hx : env.kindOf x = some .globalImplicit) (hd : (x == ("__debug__" : Str)) = false) (h : Q v s) : wpAny (model prog w) A (eval (.Name x p) env) Q E s :=
  Name_function_global P.k hx (loadGlobal_global (by rw [P.g]; exact ns_keep G.g i.hi.keep) hm h) hd

theorem V_globalInt {x : Str} {p : Pos} {i : Int} {t : Tok} (G : Gl B mg mb) (P : Plain env) (hm : mg x = some (.int i t)) (hx : env.kindOf x = some .globalImplicit) (hd : (x == ("__debug__" : Str)) = false) (h : K (.int i) H) :
    wpV prog w B n env V H (eval (.Name x p) env) K := fun A s r x => name_global G P x hm hx hd ⟨_, _, h, .int _ _, .refl x.hi⟩

theorem V_callB {x : Str} {p pos : Pos} {e : Expr} {rest : List Expr} {id : String} (G : Gl B mg mb) (P : Plain env) (hm : mg x = none) (hb : bootBuiltins x = some (.builtin id)) (hn : x ≠ ("__name__" : Str))
    (hx : env.kindOf x = some .globalImplicit) (hd : (x == ("__debug__" : Str)) = false) (he : starEach (e :: rest) env = (false, eval e env) :: starEach rest env) (hp : (backTo pos (starEach rest env)).any (·.1) = false)
    (h : wpL prog w B n env V H (spliced (backTo pos (starEach (e :: rest) env))) (fun l H₁ => opV prog w B n l H₁ (fun vs => call (.builtin id) vs) K)) :
    wpV prog w B n env V H (eval (.Call (.Name x p) (e :: rest) [] pos) env) K := fun A s r i => by
  refine wpAny_Call_NameR (name_builtin G P i hm hb hn hx hd ?_)
  have h' := h A s r i
  rw [he] at h' ⊢
  refine callWith_builtin (by show (false || (backTo pos (starEach rest env)).any (·.1)) = false; rw [hp]; rfl) (evalArgs_plain (wpAny_mono h' (fun vs s₁ zz => ?_) fun _ _ e => e))
  obtain ⟨l, H₁, h1, h2, h3⟩ := zz
  exact stepO r i.hi h3 h2 h1
theorem V_callT {x : Str} {p pos : Pos} {e : Expr} {rest : List Expr} {T : String} (G : Gl B mg mb) (P : Plain env) (hm : mg x = none) (hb : bootBuiltins x = some (.type T)) (hn : x ≠ ("__name__" : Str))
    (hx : env.kindOf x = some .globalImplicit) (hd : (x == ("__debug__" : Str)) = false) (he : starEach (e :: rest) env = (false, eval e env) :: starEach rest env) (hp : (backTo pos (starEach rest env)).any (·.1) = false)
    (h : wpL prog w B n env V H (spliced (backTo pos (starEach (e :: rest) env))) (fun l H₁ => opV prog w B n l H₁ (fun vs => call (.type T) vs) K)) :
    wpV prog w B n env V H (eval (.Call (.Name x p) (e :: rest) [] pos) env) K := fun A s r i => by
  refine wpAny_Call_NameR (name_builtin G P i hm hb hn hx hd ?_)
  refine PyProof.Rows.callWith_type1 (wpAny_mono (h A s r i) (fun vs s₁ zz => ?_) fun _ _ e => e) he hp
  obtain ⟨l, H₁, h1, h2, h3⟩ := zz
  exact stepO r i.hi h3 h2 h1
theorem V_callF {x : Str} {p pos : Pos} {e : Expr} {rest : List Expr} {a : Addr} {o : Obj} {fd : FuncData} (G : Gl B mg mb) (P : Plain env) (hm : mg x = some (.ref a)) (ho : B.get? a = some o) (hfd : o.data = .func fd)
    (hx : env.kindOf x = some .globalImplicit) (hd : (x == ("__debug__" : Str)) = false) (he : starEach (e :: rest) env = (false, eval e env) :: starEach rest env)
    (h : wpL prog w B n env V H (spliced (backTo pos (starEach (e :: rest) env))) (fun l H₁ => opV prog w B n l H₁ (fun vs => call (.ref a) vs) K)) :
    wpV prog w B n env V H (eval (.Call (.Name x p) (e :: rest) [] pos) env) K := fun A s r i => by
  refine wpAny_Call_NameR (name_global G P i hm hx hd ?_)
  have h' := h A s r i
  rw [he] at h' ⊢
  refine PySem.Calls.callWith_function (o := o) (fd := fd) (evalArgs_plain (wpAny_mono h' (fun vs s₁ zz => ?_) fun _ _ e => e))
  obtain ⟨l, H₁, h1, h2, h3⟩ := zz
  exact ⟨⟨(h3.hi i.hi).keep _ _ ho, hfd⟩, stepO r i.hi h3 h2 h1⟩

/-! the built-ins -/
theorem O_lenL {p : Addr} {l : List AV} (hp : Has H p l) (hz : l.length < 1000000) (h : K (.int l.length) H) : opV prog w B n [.ref p] H (fun vs => call (.builtin "len") vs) K := fun A s vs r x v => by
  obtain ⟨_, rfl, h1⟩ := v.one; obtain rfl := h1.toRef
  obtain ⟨us, hl, q⟩ := x.list hp
  have e := q.length
  refine len_list hl (by rw [List.size_toArray]; omega) ⟨_, _, h, ?_, .toks x _⟩
  rw [List.size_toArray, e]; exact .int _ _
theorem O_max {i j : Int} (h : K (.int (max i j)) H) : opV prog w B n [.int i, .int j] H (fun vs => call (.builtin "max") vs) K := fun A s vs r x v => by
  obtain ⟨_, _, rfl, h1, h2⟩ := v.two; obtain ⟨t, rfl⟩ := h1.toInt; obtain ⟨u, rfl⟩ := h2.toInt
  refine max_two_ints r.hd fun h' tk hk => ⟨_, _, h, ?_, .grown x hk⟩
  split
  · rw [show max i j = j by omega]; exact .int _ _
  · rw [show max i j = i by omega]; exact .int _ _
theorem O_min {i j : Int} (h : K (.int (min i j)) H) : opV prog w B n [.int i, .int j] H (fun vs => call (.builtin "min") vs) K := fun A s vs r x v => by
  obtain ⟨_, _, rfl, h1, h2⟩ := v.two; obtain ⟨t, rfl⟩ := h1.toInt; obtain ⟨u, rfl⟩ := h2.toInt
  refine min_two_ints r.hd fun h' tk hk => ⟨_, _, h, ?_, .grown x hk⟩
  split
  · rw [show min i j = j by omega]; exact .int _ _
  · rw [show min i j = i by omega]; exact .int _ _
theorem O_abs {i : Int} (h : K (.int (if i < 0 then -i else i)) H) : opV prog w B n [.int i] H (fun vs => call (.builtin "abs") vs) K := fun A s vs r x v => by
  obtain ⟨_, rfl, h1⟩ := v.one; obtain ⟨t, rfl⟩ := h1.toInt
  exact PyProof.Rows.call_abs_int fun u tk => ⟨_, _, h, .int _ _, .toks x _⟩
theorem O_intB {b : Bool} (h : K (.int (if b = true then 1 else 0)) H) : opV prog w B n [.bool b] H (fun vs => call (.type "int") vs) K := fun A s vs r x v => by
  obtain ⟨_, rfl, h1⟩ := v.one; obtain rfl := h1.toBool
  exact call_int_bool ⟨_, _, h, .int _ _, .toks x _⟩
theorem O_listL {p : Addr} {l : List AV} (hp : Has H p l) (hz : l.length ≤ 1000000) (h : ∀ a, K (.ref a) ((a, .lst l) :: H)) : opV prog w B n [.ref p] H (fun vs => call (.type "list") vs) K := fun A s vs r x v => by
  obtain ⟨_, rfl, h1⟩ := v.one; obtain rfl := h1.toRef
  obtain ⟨us, ⟨o, ho, hc, m, hd⟩, q⟩ := x.list hp
  have e := q.length
  exact call_list_seq p (.inl rfl) ho hc hd (fun h' c hk hn => ⟨_, _, h _, .ref _, .new (tk := s.toks) x hk (size_fresh _) ⟨us, c, hn, q.mono (tk_of_keep hk)⟩⟩) (by rw [List.size_toArray, sizeLine_eq]; omega)
theorem O_listT {l : List AV} (hz : l.length ≤ 1000000) (h : ∀ a, K (.ref a) ((a, .lst l) :: H)) : opV prog w B n [.tup l] H (fun vs => call (.type "list") vs) K := fun A s vs r x v => by
  obtain ⟨_, rfl, h1⟩ := v.one
  cases h1 with
  | tup q1 q2 =>
    have e := q2.length
    exact call_list_seq _ (.inr rfl) q1 rfl rfl (fun h' c hk hn => ⟨_, _, h _, .ref _, .new (tk := s.toks) x hk (size_fresh _) ⟨_, c, hn, q2.mono (tk_of_keep hk)⟩⟩) (by rw [List.size_toArray, sizeLine_eq]; omega)

/-! tests -/
theorem B_cmp {l r : Expr} {op : CmpOp} {pos : Pos} {whole : Sem Value} {K : Bool → AH → Prop}
    (h : wpV prog w B n env V H (eval l env) (fun a H₁ => wpV prog w B n env V H₁ (eval r env) (fun b H₂ => opV prog w B n [a, b] H₂ (cmp op) (fun c H₃ => ∃ t, c = .bool t ∧ K t H₃))))
    (hm : behindInMarks op r = false) : wpB prog w B n env V H (isTrue (.Compare l [op] [r] pos) env whole) K := fun A s rm i => by
  refine wpAny_isTrue_Compare1 (wpAny_mono (h A s rm i) (fun v s₁ zz => ?_) fun _ _ e => e.elim) hm
  obtain ⟨a, H₁, h1, h2, h3⟩ := zz
  refine wpAny_mono (h1 A s₁ rm (h3.inv i)) (fun u s₂ zz => ?_) fun _ _ e => e.elim
  obtain ⟨b, H₂, k1, k2, k3⟩ := zz
  have hi := (h3.trans k3).hi i.hi
  refine wpAny_mono (k1 A s₂ [v, u] rm hi (.cons (h2.mono (k3.tk (h3.hi i.hi))) (.cons k2 .nil))) (fun c s₃ zz => ?_) fun _ _ e => e.elim
  obtain ⟨d, H₃, ⟨t, e, m1⟩, m2, m3⟩ := zz
  subst e; obtain rfl := m2.toBool
  exact wpAny_truthy_bool ⟨_, m1, (h3.trans k3).trans m3⟩
theorem B_not {x : Expr} {pos : Pos} {whole : Sem Value} {K : Bool → AH → Prop} (h : wpB prog w B n env V H (isTrue x env (eval x env)) (fun b H₁ => K (!b) H₁)) : wpB prog w B n env V H (isTrue (.UnaryOp .Not x pos) env whole) K := fun A s r i =>
  isTrue_not (wpAny_mono (h A s r i) (fun b s₁ z => z) fun _ _ e => e)
theorem B_and {x : Expr} {rest : List Expr} {pos : Pos} {whole : Sem Value} {K : Bool → AH → Prop}
    (h : wpB prog w B n env V H (isTrue x env (eval x env)) (fun b H₁ => (b = true → wpB prog w B n env V H₁ (isTrue (.BoolOp .And rest pos) env whole) K) ∧ (b = false → K false H₁))) :
    wpB prog w B n env V H (isTrue (.BoolOp .And (x :: rest) pos) env whole) K := fun A s r i => by
  refine isTrue_and (wpAny_mono (h A s r i) (fun b s₁ zz => ?_) fun _ _ e => e)
  obtain ⟨H₁, ⟨h1, h2⟩, h3⟩ := zz
  cases b with
  | true => exact wpAny_mono (h1 rfl A s₁ r (h3.inv i)) (fun _ _ ⟨H₂, k1, k2⟩ => ⟨H₂, k1, h3.trans k2⟩) fun _ _ e => e
  | false => exact ⟨_, h2 rfl, h3⟩
theorem B_or {x : Expr} {rest : List Expr} {pos : Pos} {whole : Sem Value} {K : Bool → AH → Prop}
    (h : wpB prog w B n env V H (isTrue x env (eval x env)) (fun b H₁ => (b = false → wpB prog w B n env V H₁ (isTrue (.BoolOp .Or rest pos) env whole) K) ∧ (b = true → K true H₁))) :
    wpB prog w B n env V H (isTrue (.BoolOp .Or (x :: rest) pos) env whole) K := fun A s r i => by
  refine isTrue_or (wpAny_mono (h A s r i) (fun b s₁ zz => ?_) fun _ _ e => e)
  obtain ⟨H₁, ⟨h1, h2⟩, h3⟩ := zz
  cases b with
  | false => exact wpAny_mono (h1 rfl A s₁ r (h3.inv i)) (fun _ _ ⟨H₂, k1, k2⟩ => ⟨H₂, k1, h3.trans k2⟩) fun _ _ e => e
  | true => exact ⟨_, h2 rfl, h3⟩
theorem B_andN {pos : Pos} {whole : Sem Value} {K : Bool → AH → Prop} (h : K true H) : wpB prog w B n env V H (isTrue (.BoolOp .And [] pos) env whole) K := fun A s r i => isTrue_and_nil ⟨_, h, .refl i.hi⟩
theorem B_orN {pos : Pos} {whole : Sem Value} {K : Bool → AH → Prop} (h : K false H) : wpB prog w B n env V H (isTrue (.BoolOp .Or [] pos) env whole) K := fun A s r i => isTrue_or_nil ⟨_, h, .refl i.hi⟩
theorem B_plain {e : Expr} {K : Bool → AH → Prop} (h : wpV prog w B n env V H (eval e env) (fun a H₁ => ∃ t, a = .bool t ∧ K t H₁))
    (he : isTrue e env (eval e env) = (do let v ← eval e env; standAt e.pos; holding [v] (truthy v))) : wpB prog w B n env V H (isTrue e env (eval e env)) K := fun A s r i =>
  isTrue_plain (wpAny_mono (h A s r i) (fun v s₁ ⟨a, H₁, ⟨t, e, h1⟩, h2, h3⟩ => by subst e; obtain rfl := h2.toBool; exact wpAny_truthy_bool ⟨_, h1, h3⟩) fun _ _ e => e) he
theorem V_And2 {x y : Expr} {pos : Pos}
    (h : wpV prog w B n env V H (eval x env) (fun a H₁ => ∃ t, a = .bool t ∧ (t = true → wpV prog w B n env V H₁ (eval y env) K) ∧ (t = false → K (.bool false) H₁))) :
    wpV prog w B n env V H (eval (.BoolOp .And [x, y] pos) env) K := fun A s r i => by
  refine wpAny_And2 (wpAny_mono (h A s r i) (fun v s₁ zz => ?_) fun _ _ e => e)
  obtain ⟨a, H₁, ⟨t, e, h1, h1'⟩, h2, h3⟩ := zz
  subst e; obtain rfl := h2.toBool
  refine wpAny_truthy_bool ?_
  cases t with
  | true => exact stepV r i h3 (h1 rfl)
  | false => exact ⟨_, _, h1' rfl, .bool _, h3⟩
theorem B_chain {l r₁ r₂ : Expr} {op₁ op₂ : CmpOp} {pos : Pos} {whole : Sem Value} {K : Bool → AH → Prop}
    (h : wpV prog w B n env V H (eval l env) (fun a H₁ => wpV prog w B n env V H₁ (eval r₁ env) (fun b H₂ => opV prog w B n [a, b] H₂ (cmp op₁) (fun c H₃ => ∃ t, c = .bool t ∧
      (t = true → wpV prog w B n env V H₃ (eval r₂ env) (fun d H₄ => opV prog w B n [b, d] H₄ (cmp op₂) (fun c H₅ => ∃ t, c = .bool t ∧ K t H₅))) ∧ (t = false → K false H₃)))))
    (hm : lastMarks [op₁, op₂] [r₁, r₂] = false) : wpB prog w B n env V H (isTrue (.Compare l [op₁, op₂] [r₁, r₂] pos) env whole) K := fun A s rm i => by
  refine isTrue_chain (wpAny_mono (h A s rm i) (fun v s₁ zz => ?_) fun _ _ e => e.elim) hm
  obtain ⟨a, H₁, h1, h2, h3⟩ := zz
  refine test_link (wpAny_mono (h1 A s₁ rm (h3.inv i)) (fun u s₂ zz => ?_) fun _ _ e => e.elim)
  obtain ⟨b, H₂, k1, k2, k3⟩ := zz
  have hi := (h3.trans k3).hi i.hi
  refine wpAny_mono (k1 A s₂ [v, u] rm hi (.cons (h2.mono (k3.tk (h3.hi i.hi))) (.cons k2 .nil))) (fun c s₃ zz => ?_) fun _ _ e => e.elim
  obtain ⟨d, H₃, ⟨t, e, m1, m1'⟩, m2, m3⟩ := zz
  subst e; obtain rfl := m2.toBool
  have E3 := (h3.trans k3).trans m3
  refine wpAny_truthy_bool ?_
  cases t with
  | false => exact ⟨_, m1' rfl, E3⟩
  | true =>
    refine test_last (wpAny_mono (m1 rfl A s₃ rm (E3.inv i)) (fun y s₄ zz => ?_) fun _ _ e => e.elim)
    obtain ⟨d, H₄, q1, q2, q3⟩ := zz
    have hi4 := (E3.trans q3).hi i.hi
    refine wpAny_mono (q1 A s₄ [u, y] rm hi4 (.cons (k2.mono ((m3.trans q3).tk hi)) (.cons q2 .nil))) (fun c s₅ zz => ?_) fun _ _ e => e.elim
    obtain ⟨d, H₅, ⟨t, e, z1⟩, z2, z3⟩ := zz
    subst e; obtain rfl := z2.toBool
    exact wpAny_truthy_bool ⟨_, z1, (E3.trans q3).trans z3⟩
end

inductive AF where
  | next | brk | cont
  | ret (a : AV)
inductive FR (h : Heap) : Flow → AF → Prop
  | next : FR h .next .next
  | brk : FR h .brk .brk
  | cont : FR h .cont .cont
  | ret {v : Value} {a : AV} : VR h v a → FR h (.ret v) (.ret a)

structure ExtS (env : Env) (H : AH) (s : Shared) (H' : AH) (s' : Shared) : Prop where
  out : ∃ h tk, s' = { s with heap := h, toks := tk }
  keep : ∀ b o, s.heap.get? b = some o → (∀ e ∈ H, e.1 ≠ b) → b ≠ env.locals → (∀ x c, env.cells.lookup x = some c → c ≠ b) → s'.heap.get? b = some o
  stay : ∀ b o, s.heap.get? b = some o → ∃ o', s'.heap.get? b = some o'
  fresh : ∀ e ∈ H', (∃ e₀ ∈ H, e₀.1 = e.1) ∨ s.heap.get? e.1 = none

theorem Ext.toS {env : Env} {H H' : AH} {s s' : Shared} (x : Ext H s H' s') : ExtS env H s H' s' := ⟨x.out, fun b o e k _ _ => x.keep b o e k, x.stay, x.fresh⟩
theorem ExtS.refl {env : Env} {H : AH} {s : Shared} : ExtS env H s H s := ⟨⟨_, _, rfl⟩, fun _ _ e _ _ _ => e, fun _ o e => ⟨o, e⟩, fun e he => .inl ⟨e, he, rfl⟩⟩
theorem EI.locals {B : Heap} {env : Env} {V : Vars} {H : AH} {h : Heap} (x : EI B env V H h) : ∃ o, h.get? env.locals = some o := by
  obtain ⟨m, ⟨o, _, _, ho, _⟩, _⟩ := x.loc; exact ⟨o, ho⟩
theorem ExtS.trans {B : Heap} {env : Env} {V : Vars} {H H₁ H₂ : AH} {s s₁ s₂ : Shared} (x : ExtS env H s H₁ s₁) (i : EI B env V H₁ s₁.heap) (y : ExtS env H₁ s₁ H₂ s₂) : ExtS env H s H₂ s₂ := by
  obtain ⟨ol, hl⟩ := i.locals
  have hc := i.cel
  obtain ⟨h, tk, rfl⟩ := x.out
  obtain ⟨h', tk', rfl⟩ := y.out
  refine ⟨⟨_, _, rfl⟩, fun b o e k k1 k2 => y.keep b o (x.keep b o e k k1 k2) (fun e' he' q => ?_) k1 k2, fun b o e => (let ⟨o', e'⟩ := x.stay b o e; y.stay b o' e'), fun e he => ?_⟩
  · rcases x.fresh e' he' with ⟨e₀, h₀, q'⟩ | q'
    · exact k e₀ h₀ (q'.trans q)
    · rw [q, e] at q'; cases q'
  · rcases y.fresh e he with ⟨e₀, h₀, q⟩ | q
    · rw [← q]; exact x.fresh e₀ h₀
    · cases hq : s.heap.get? e.1 with
      | none => exact .inr rfl
      | some o =>
        by_cases hh : ∃ e₀ ∈ H, e₀.1 = e.1
        · exact .inl hh
        · exfalso
          have := x.keep _ _ hq (fun e' he' q' => hh ⟨e', he', q'⟩) (fun q' => by rw [q', hl] at q; cases q) fun z c hz q' => by
            obtain ⟨ob, u, h1, _⟩ := hc z c hz
            rw [q', q] at h1; cases h1
          rw [q] at this; cases this
theorem ExtS.weaken {env : Env} {H H₁ H₂ : AH} {s s₁ : Shared} (x : ExtS env H s H₁ s₁) (k : HSub H₂ H₁) : ExtS env H s H₂ s₁ :=
  ⟨x.out, x.keep, x.stay, fun e he => by obtain ⟨o, h1, _⟩ := k.mem e he; exact x.fresh (e.1, o) h1⟩

def postS (B : Heap) (env : Env) (H : AH) (s : Shared) (K : AF → Vars → AH → Prop) (f : Flow) (s' : Shared) : Prop :=
  ∃ af V' H', K af V' H' ∧ FR s'.heap f af ∧ Inv B env V' H' s' ∧ ExtS env H s H' s'
section
variable (prog : Program) (w : World) (B : Heap) (n : Nat) (env : Env) (V : Vars) (H : AH)
def wpS (ss : List Stmt) (K : AF → Vars → AH → Prop) : Prop :=
  ∀ A s, Room A n → Inv B env V H s → wpAny (model prog w) A (execs ss env) (postS B env H s K) (fun _ _ => False) s
end

section
variable {prog : Program} {w : World} {B : Heap} {n : Nat} {env : Env} {V : Vars} {H : AH} {K : AF → Vars → AH → Prop} {mg mb : Str → Option Value}

theorem stepS {A : Around} {s s₁ : Shared} {V₁ : Vars} {H₁ : AH} {ss : List Stmt} (r : Room A n) (i : Inv B env V₁ H₁ s₁) (x : ExtS env H s H₁ s₁) (h : wpS prog w B n env V₁ H₁ ss K) : wpAny (model prog w) A (execs ss env) (postS B env H s K) (fun _ _ => False) s₁ :=
  wpAny_mono (h A s₁ r i) (fun _ _ ⟨af, V', H', h1, h2, h3, h4⟩ => ⟨af, V', H', h1, h2, h3, x.trans i.ei h4⟩) fun _ _ e => e

def stmt (prog : Program) (w : World) (B : Heap) (n : Nat) (env : Env) (V : Vars) (H : AH) (st : Stmt) (K : AF → Vars → AH → Prop) : Prop :=
  ∀ A s, Room A n → Inv B env V H s → wpAny (model prog w) A (exec st env) (postS B env H s K) (fun _ _ => False) s
def andThen (prog : Program) (w : World) (B : Heap) (n : Nat) (env : Env) (rest : List Stmt) (K : AF → Vars → AH → Prop) (f : AF) (V : Vars) (H : AH) : Prop :=
  match f with
  | .next => wpS prog w B n env V H rest K
  | f => K f V H
theorem S_cons {st : Stmt} {rest : List Stmt} (h : stmt prog w B n env V H st (andThen prog w B n env rest K)) : wpS prog w B n env V H (st :: rest) K := fun A s r i => by
  refine wpAny_execs_cons (wpAny_mono (h A s r i) (fun f s' ⟨af, V', H', h1, h2, h3, h4⟩ => ?_) fun _ _ e => e)
  cases h2 with
  | next => exact stepS r h3 h4 h1
  | brk => exact ⟨_, _, _, h1, .brk, h3, h4⟩
  | cont => exact ⟨_, _, _, h1, .cont, h3, h4⟩
  | ret v => exact ⟨_, _, _, h1, .ret v, h3, h4⟩
theorem S_nil (h : K .next V H) : wpS prog w B n env V H [] K := fun A s r i => wpAny_execs_nil ⟨_, _, _, h, .next, i, .refl⟩
theorem wpS.mono {ss : List Stmt} {K' : AF → Vars → AH → Prop} (h : wpS prog w B n env V H ss K) (k : ∀ f V' H', K f V' H' → K' f V' H') : wpS prog w B n env V H ss K' :=
  fun A s r i => wpAny_mono (h A s r i) (fun _ _ ⟨a, V', H', h1, h2⟩ => ⟨a, V', H', k _ _ _ h1, h2⟩) fun _ _ e => e
theorem wpS.weaken {ss : List Stmt} {V' : Vars} {H' : AH} (j : VSub V' V) (k : HSub H' H) (h : wpS prog w B n env V' H' ss K) : wpS prog w B n env V H ss K := fun A s r i => by
  have x : ExtS env H s H' s := ExtS.refl.weaken k
  exact wpAny_mono (h A s r (i.weaken k j)) (fun _ _ ⟨af, V', H', h1, h2, h3, h4⟩ => ⟨af, V', H', h1, h2, h3, x.trans (i.weaken k j).ei h4⟩) fun _ _ e => e

/-! stores into names -/
theorem beq_str {x y : Str} (h : (x == y) = true) : x = y := by simpa using h
theorem store_local {A : Around} {s : Shared} {x : Str} {v : Value} {a : AV} (i : Inv B env V H s) (hv : VR s.heap v a) (P : Plain env) (hx : env.kindOf x = some .local) :
    wpAny (model prog w) A (storeName env x v) (fun _ s' => Inv B env ((x, a) :: V) H s' ∧ ExtS env H s H s' ∧ TupKeep s.heap s'.heap) (fun _ _ => False) s := by
  obtain ⟨m, hm, hq⟩ := i.ei.loc
  refine wpAny_storeName_local hx hm (fun h' hn hs => ?_) (by rw [P.k]; rfl)
  have keep : ∀ b o, b ≠ env.locals → s.heap.get? b = some o → h'.get? b = some o := fun b o hb e => hs.extBut b o hb e
  have tk : TupKeep s.heap h' := fun a vs k y => keep a _ (fun q => by
    obtain ⟨o, es, ep, ho, hd, _⟩ := hm
    rw [q] at y; unfold IsT at y; rw [y] at ho; injection ho with ho; subst ho; cases hd) y
  have hH : ∀ e ∈ H, OR h' e.1 e.2 := fun e he => (i.hi.hr e he).keep tk fun ob q => keep _ _ (i.ei.lH e he) q
  refine ⟨⟨⟨fun b o e => keep b o (fun q => by rw [q, i.ei.lB] at e; cases e) (i.hi.keep b o e), i.hi.nd, hH, i.hi.hb⟩, ⟨⟨_, hn, fun z b e k => ?_⟩, fun z c e => ?_, i.ei.lH, i.ei.lB, i.ei.cB, i.ei.ci⟩⟩, ⟨⟨_, _, rfl⟩, fun b o e _ k _ => keep b o k e, fun b o e => (if q : b = env.locals then q ▸ (let ⟨o, _, _, h, _⟩ := hn; ⟨o, h⟩) else ⟨o, keep b o q e⟩), fun e he => .inl ⟨e, he, rfl⟩⟩, tk⟩
  · rw [List.lookup_cons] at e
    split at e
    · rename_i q; cases e; exact ⟨v, by rw [if_pos (beq_str q)], hv.mono tk⟩
    · rename_i q
      obtain ⟨u, h1, h2⟩ := hq z b e k
      exact ⟨u, by rw [if_neg (fun w => by rw [w] at q; simp at q)]; exact h1, h2.mono tk⟩
  · obtain ⟨ob, u, h1, h2, h3⟩ := i.ei.cel z c e
    refine ⟨ob, u, keep c ob (fun q => ?_) h1, h2, fun b hb k => ?_⟩
    · obtain ⟨o, es, ep, ho, hd, _⟩ := hm
      rw [q] at h1; rw [h1] at ho; injection ho with ho; subst ho; rw [h2] at hd; cases hd
    · rw [List.lookup_cons] at hb
      split at hb
      · rename_i q; exact absurd (beq_str q ▸ hx) k
      · obtain ⟨y, y1, y2⟩ := h3 b hb k; exact ⟨y, y1, y2.mono tk⟩

theorem store_cell {A : Around} {s : Shared} {x : Str} {v : Value} {a : AV} {c : Addr} (i : Inv B env V H s) (hv : VR s.heap v a) (P : Plain env) (hx : env.kindOf x = some .cell) (hc : env.cells.lookup x = some c) :
    wpAny (model prog w) A (storeName env x v) (fun _ s' => Inv B env ((x, a) :: V) H s' ∧ ExtS env H s H s' ∧ TupKeep s.heap s'.heap) (fun _ _ => False) s := by
  obtain ⟨ob, u, h1, h2, h3⟩ := i.ei.cel x c hc
  refine wpAny_storeName_cell P.k hx hc ⟨ob, h1, h2⟩ (fun h' hn hs => ?_)
  have keep : ∀ b o, b ≠ c → s.heap.get? b = some o → h'.get? b = some o := fun b o hb e => hs.extBut b o hb e
  have tk : TupKeep s.heap h' := fun a vs k y => keep a _ (fun q => by
    rw [q] at y; unfold IsT at y; rw [y] at h1; injection h1 with ho; subst ho; cases h2) y
  have hne : ∀ e ∈ H, e.1 ≠ c := fun e he q => (i.hi.hr e he).notCell (q ▸ h1) h2
  have hH : ∀ e ∈ H, OR h' e.1 e.2 := fun e he => (i.hi.hr e he).keep tk fun ob q => keep _ _ (hne e he) q
  obtain ⟨m, hm, hq⟩ := i.ei.loc
  have hlc : env.locals ≠ c := fun q => by
    obtain ⟨o, es, ep, ho, hd, _⟩ := hm
    rw [q, h1] at ho; injection ho with ho; subst ho; rw [h2] at hd; cases hd
  refine ⟨⟨⟨fun b o e => keep b o (fun q => by rw [q, i.ei.cB x c hc] at e; cases e) (i.hi.keep b o e), i.hi.nd, hH, i.hi.hb⟩, ⟨⟨m, hm.sameBut hs hlc, fun z b e k => ?_⟩, fun z d e => ?_, i.ei.lH, i.ei.lB, i.ei.cB, i.ei.ci⟩⟩, ⟨⟨_, _, rfl⟩, fun b o e _ _ k => keep b o (Ne.symm (k x c hc)) e, fun b o e => (if q : b = c then q ▸ (let ⟨o, h, _⟩ := hn; ⟨o, h⟩) else ⟨o, keep b o q e⟩), fun e he => .inl ⟨e, he, rfl⟩⟩, tk⟩
  · rw [List.lookup_cons] at e
    split at e
    · rename_i q; have z' := beq_str q; subst z'; rw [hx] at k; cases k
    · obtain ⟨u, q1, q2⟩ := hq z b e k
      exact ⟨u, q1, q2.mono tk⟩
  · by_cases hz : z = x
    · subst hz
      rw [hc] at e; cases e
      obtain ⟨o', q1, q2⟩ := hn
      refine ⟨o', some v, q1, q2, fun b hb k => ?_⟩
      rw [List.lookup_cons_self] at hb; cases hb
      exact ⟨v, rfl, hv.mono tk⟩
    · obtain ⟨ob', u', q1, q2, q3⟩ := i.ei.cel z d e
      refine ⟨ob', u', keep d ob' (fun q => hz (i.ei.ci z x c (q ▸ e) hc)) q1, q2, fun b hb k => ?_⟩
      rw [List.lookup_cons] at hb
      split at hb
      · rename_i q; exact absurd (beq_str q) hz
      · obtain ⟨y, y1, y2⟩ := q3 b hb k; exact ⟨y, y1, y2.mono tk⟩

inductive Storable (env : Env) (x : Str) : Prop
  | loc : env.kindOf x = some .local → Storable env x
  | cell {c : Addr} : env.kindOf x = some .cell → env.cells.lookup x = some c → Storable env x
theorem store_any {A : Around} {s : Shared} {x : Str} {v : Value} {a : AV} (i : Inv B env V H s) (hv : VR s.heap v a) (P : Plain env) (hx : Storable env x) :
    wpAny (model prog w) A (storeName env x v) (fun _ s' => Inv B env ((x, a) :: V) H s' ∧ ExtS env H s H s' ∧ TupKeep s.heap s'.heap) (fun _ _ => False) s := by
  cases hx with
  | loc h => exact store_local i hv P h
  | cell h c => exact store_cell i hv P h c

theorem S_assign {x : Str} {p pos : Pos} {value : Expr} {rest : List Stmt} (P : Plain env) (hx : Storable env x) (hs : swapsWith value (some (.Name x p)) pos.line env = pure false)
    (h : wpV prog w B n env V H (eval value env) (fun a H₁ => wpS prog w B n env ((x, a) :: V) H₁ rest K)) : wpS prog w B n env V H (.Assign [.Name x p] value pos :: rest) K := S_cons fun A s r i => by
  refine wpAny_Assign_Name (wpAny_mono (h A s r i) (fun v s₁ zz => ?_) fun _ _ e => e.elim) hs
  obtain ⟨a, H₁, h1, h2, h3⟩ := zz
  exact wpAny_mono (store_any (h3.inv i) h2 P hx) (fun _ s₂ ⟨k1, k2, _⟩ => ⟨.next, _, _, h1, .next, k1, h3.toS.trans (h3.inv i).ei k2⟩) fun _ _ e => e

theorem S_if {test : Expr} {body orelse : List Stmt} {pos : Pos} {rest : List Stmt}
    (h : wpB prog w B n env V H (isTrue test env (eval test env)) (fun b H₁ => (b = true → wpS prog w B n env V H₁ body (andThen prog w B n env rest K)) ∧ (b = false → wpS prog w B n env V H₁ orelse (andThen prog w B n env rest K)))) :
    wpS prog w B n env V H (.If test body orelse pos :: rest) K := S_cons fun A s r i => by
  refine wpAny_If (wpAny_mono (h A s r i) (fun b s₁ zz => ?_) fun _ _ e => e)
  obtain ⟨H₁, ⟨h1, h2⟩, h3⟩ := zz
  cases b with
  | true => exact stepS r (h3.inv i) h3.toS (h1 rfl)
  | false => exact stepS r (h3.inv i) h3.toS (h2 rfl)

theorem S_ret {e : Expr} {pos : Pos} {rest : List Stmt} (h : wpV prog w B n env V H (eval e env) (fun a H₁ => K (.ret a) V H₁)) : wpS prog w B n env V H (.Return (some e) pos :: rest) K := S_cons fun A s r i =>
  wpAny_Return_some (wpAny_mono (h A s r i) (fun v s₁ ⟨a, H₁, h1, h2, h3⟩ => ⟨.ret a, V, H₁, h1, .ret h2, h3.inv i, h3.toS⟩) fun _ _ e => e)

theorem S_expr {e : Expr} {pos : Pos} {rest : List Stmt} (hi : interactive env = false) (hs : swapsWith e Option.none pos.line env = pure false)
    (h : wpV prog w B n env V H (eval e env) (fun a H₁ => a = .none ∧ wpS prog w B n env V H₁ rest K)) : wpS prog w B n env V H (.Expr e pos :: rest) K := S_cons fun A s r i =>
  wpAny_Expr (wpAny_mono (h A s r i) (fun v s₁ ⟨a, H₁, ⟨e, h1⟩, h2, h3⟩ => by subst e; cases h2; exact ⟨.next, _, _, h1, .next, h3.inv i, h3.toS⟩) fun _ _ e => e) hi hs
end

theorem OR.notFields {h : Heap} {a : Addr} {o : AO} (x : OR h a o) {ob : Obj} {u : Array Value} (y : h.get? a = some ob) (z : ob.data = .fields u) : False := by
  cases o with
  | lst l => obtain ⟨ws, m, q, _⟩ := x; unfold IsL at q; rw [y] at q; injection q with q; subst q; cases z
  | arr l => obtain ⟨ws, q, _⟩ := x; obtain ⟨o, ho, hc, _, hd⟩ := q; rw [y] at ho; injection ho with ho; subst ho; rw [z] at hd; cases hd
  | dic f k => obtain ⟨g, q, _⟩ := x; obtain ⟨o, es, ep, ho, hc, hd, _⟩ := q; rw [y] at ho; injection ho with ho; subst ho; rw [z] at hd; cases hd

section
variable {prog : Program} {w : World} {B : Heap} {n : Nat} {env : Env} {V : Vars} {H : AH}

theorem Inv.but {s : Shared} (i : Inv B env V H s) {I : Addr} {ob : Obj} {fs : Array Value} (h1 : s.heap.get? I = some ob) (h2 : ob.data = .fields fs) (hB : B.get? I = none) {h' : Heap} {tk : Nat}
    (hk : ∀ b o, b ≠ I → s.heap.get? b = some o → h'.get? b = some o) : Inv B env V H { s with heap := h', toks := tk } ∧ TupKeep s.heap h' := by
  have tkp : TupKeep s.heap h' := fun a vs k y => hk a _ (fun q => by rw [q] at y; unfold IsT at y; rw [h1] at y; injection y with y; subst y; cases h2) y
  have hne : ∀ e ∈ H, e.1 ≠ I := fun e he q => (i.hi.hr e he).notFields (q ▸ h1) h2
  obtain ⟨m, hm, hq⟩ := i.ei.loc
  have hlI : env.locals ≠ I := fun q => by
    obtain ⟨o, es, ep, ho, hd, _⟩ := hm
    rw [q, h1] at ho; injection ho with ho; subst ho; rw [h2] at hd; cases hd
  refine ⟨⟨⟨fun b o e => hk b o (fun q => by rw [q, hB] at e; cases e) (i.hi.keep b o e), i.hi.nd, fun e he => (i.hi.hr e he).keep tkp fun ob q => hk _ _ (hne e he) q, i.hi.hb⟩,
    ⟨⟨m, hm.at' fun o e => hk _ o hlI e, fun z a e k => ?_⟩, fun z c e => ?_, i.ei.lH, i.ei.lB, i.ei.cB, i.ei.ci⟩⟩, tkp⟩
  · obtain ⟨u, q1, q2⟩ := hq z a e k; exact ⟨u, q1, q2.mono tkp⟩
  · obtain ⟨ob', u, q1, q2, q3⟩ := i.ei.cel z c e
    refine ⟨ob', u, hk c ob' (fun q => ?_) q1, q2, fun a ha k => ?_⟩
    · rw [q, h1] at q1; injection q1 with q1; subst q1; rw [h2] at q2; cases q2
    · obtain ⟨v, z1, z2⟩ := q3 a ha k; exact ⟨v, z1, z2.mono tkp⟩

theorem ExtS.rec_ {H' : AH} {s s' : Shared} (x : ExtS env H s H' s') (i : Inv B env V H s) {I : Addr} {ob : Obj} {fs : Array Value} (h1 : s.heap.get? I = some ob) (h2 : ob.data = .fields fs) : s'.heap.get? I = some ob := by
  refine x.keep I ob h1 (fun e he q => (i.hi.hr e he).notFields (q ▸ h1) h2) (fun q => ?_) fun z c hz q => ?_
  · obtain ⟨m, hm, _⟩ := i.ei.loc
    obtain ⟨o, es, ep, ho, hd, _⟩ := hm
    rw [← q, h1] at ho; injection ho with ho; subst ho; rw [h2] at hd; cases hd
  · obtain ⟨ob', u, q1, q2, _⟩ := i.ei.cel z c hz
    rw [q, h1] at q1; injection q1 with q1; subst q1; rw [h2] at q2; cases q2

/-! targets -/
inductive Tgt (env : Env) : Expr → AV → (Vars → Vars) → Prop
  | name {x : Str} {p : Pos} {a : AV} : Storable env x → Tgt env (.Name x p) a (fun V => (x, a) :: V)
  | two {x y : Str} {p q tp : Pos} {k : Nat} {a b : AV} : Storable env x → Storable env y → Tgt env (.Tuple [.Name x p, .Name y q] k tp) (.tup [a, b]) (fun V => (y, b) :: (x, a) :: V)

theorem extBut_keep {h h' : Heap} (x : Heap.ExtBut h.objs.size h h') : ∀ b o, h.get? b = some o → h'.get? b = some o := fun b o e => x b o (Nat.ne_of_lt (Heap.lt_size e)) e
theorem grown_inv {s : Shared} (i : Inv B env V H s) {h' : Heap} {tk : Nat} (hk : ∀ b o, s.heap.get? b = some o → h'.get? b = some o) : Inv B env V H { s with heap := h', toks := tk } := Ext.inv i (.grown i.hi hk)

theorem store_two {A : Around} {s : Shared} {x y : Str} {v u : Value} {a b : AV} (i : Inv B env V H s) (hv : VR s.heap v a) (hu : VR s.heap u b) (P : Plain env) (hx : Storable env x) (hy : Storable env y) :
    wpAny (model prog w) A (storeName env x v) (fun _ s₁ => wpAny (model prog w) A (storeName env y u) (fun _ s' => Inv B env ((y, b) :: (x, a) :: V) H s' ∧ ExtS env H s H s' ∧ TupKeep s.heap s'.heap) (fun _ _ => False) s₁) (fun _ _ => False) s :=
  wpAny_mono (store_any i hv P hx) (fun _ s₁ ⟨h1, h2, h3⟩ => wpAny_mono (store_any h1 (hu.mono h3) P hy) (fun _ s₂ ⟨k1, k2, k3⟩ => ⟨k1, h2.trans h1.ei k2, h3.trans k3⟩) fun _ _ e => e) fun _ _ e => e

theorem assign_tgt {A : Around} {s : Shared} {t : Expr} {v : Value} {a : AV} {F : Vars → Vars} (hh : A.handled = none) (T : Tgt env t a F) (i : Inv B env V H s) (hv : VR s.heap v a) (P : Plain env) :
    wpAny (model prog w) A (assign t env v) (fun _ s' => Inv B env (F V) H s' ∧ ExtS env H s H s') (fun _ _ => False) s := by
  cases T with
  | name hx => exact wpAny_assign_Name (wpAny_mono (store_any i hv P hx) (fun _ _ h => ⟨h.1, h.2.1⟩) fun _ _ e => e)
  | two hx hy =>
    cases hv with
    | tup t1 t2 =>
      obtain ⟨u, v, rfl, q1, q2⟩ := t2.two
      refine assign_Tuple_tuple hh ⟨_, t1, rfl, _, rfl⟩ rfl rfl fun h' he => ?_
      have hk := extBut_keep he
      have i' := grown_inv (tk := s.toks) i hk
      have E := (Ext.grown (tk := s.toks) i.hi hk).toS (env := env)
      refine assignInOrder_cons (wpAny_assign_Name (wpAny_mono (store_two i' (q1.mono (tk_of_keep hk)) (q2.mono (tk_of_keep hk)) P hx hy) (fun _ s₁ h₁ => ?_) fun _ _ e => e))
      refine assignInOrder_cons (wpAny_assign_Name (wpAny_mono h₁ (fun _ s₂ h₂ => assignInOrder_nil ⟨h₂.1, E.trans i'.ei h₂.2.1⟩) fun _ _ e => e))
end

inductive Src where
  | lst (p : Addr)
  | rng (a : Int) (m : Nat) (st : Int)
def SrcAt (h : Heap) (v : Value) : Src → Prop
  | .lst p => v = .ref p
  | .rng a m st => ∃ r b t u w, v = .ref r ∧ IsRange h r a b st t u w ∧ Builtin.Range.small a b st = true ∧ Builtin.Range.rangeSize a b st = (m : Int)
def Src.items (H : AH) : Src → List AV → Prop
  | .lst p, l => Has H p l
  | .rng a m st, l => l = (List.range m).map fun (i : Nat) => .int (a + (i : Int) * st)
def ItAt (h : Heap) (I : Addr) (i : Nat) : Src → Prop
  | .lst p => h.IsListIter I p i
  | .rng a m st => IsRangeIter h I (a + (i : Int) * st) ((m : Int) - (i : Int)) st

theorem ItAt.fields {h : Heap} {I : Addr} {i : Nat} {src : Src} (x : ItAt h I i src) : ∃ ob fs, h.get? I = some ob ∧ ob.data = .fields fs := by
  cases src with
  | lst p => obtain ⟨o, h1, _, h2⟩ := x; exact ⟨o, _, h1, h2⟩
  | rng a m st => exact ⟨_, _, x, rfl⟩
theorem ItAt.at {h h' : Heap} {I : Addr} {i : Nat} {src : Src} (x : ItAt h I i src) (e : ∀ o, h.get? I = some o → h'.get? I = some o) : ItAt h' I i src := by
  cases src with
  | lst p => obtain ⟨o, h1, r⟩ := x; exact ⟨o, e _ h1, r⟩
  | rng a m st => exact e _ x

section
variable {prog : Program} {w : World} {B : Heap} {n : Nat} {env : Env} {V : Vars} {H : AH}

theorem iter_src {A : Around} {s : Shared} {v : Value} {src : Src} {l : List AV} (i : HI B H s.heap) (hv : SrcAt s.heap v src) (hl : src.items H l) :
    wpAny (model prog w) A (pyIter v) (fun it s' => ∃ I h', it = .ref I ∧ s.heap.get? I = none ∧ s' = { s with heap := h' } ∧ (∀ b o, s.heap.get? b = some o → h'.get? b = some o) ∧ ItAt h' I 0 src) (fun _ _ => False) s := by
  cases src with
  | lst p =>
    obtain rfl : v = .ref p := hv
    obtain ⟨vs, h1, h2⟩ := i.list hl
    exact wpAny_pyIter_list h1 ⟨_, _, rfl, size_fresh _, rfl, push_keeps, ⟨_, Heap.get?_push_size _ rfl, rfl, rfl⟩⟩
  | rng a m st =>
    obtain ⟨r, b, t, u, w, rfl, h1, h2, h3⟩ := hv
    refine wpAny_pyIter_range h1 h2 ⟨_, _, rfl, size_fresh _, rfl, push_keeps, ?_⟩
    show IsRangeIter _ _ _ _ _
    rw [h3]
    have z := Heap.get?_push_size s.heap (o := { cls := .type "range_iterator", data := .fields #[rawInt a, rawInt (m : Int), rawInt st] }) rfl
    simpa using z

theorem next_src {A : Around} {s : Shared} {src : Src} {l : List AV} {I : Addr} {k : Nat} {a : AV} (i : HI B H s.heap) (hI : ItAt s.heap I k src) (hl : src.items H l) (ha : l[k]? = some a) :
    wpAny (model prog w) A (pyNext (.ref I)) (fun r s' => ∃ v h' tk, r = some v ∧ VR s.heap v a ∧ s' = { s with heap := h', toks := tk } ∧ (∀ b o, b ≠ I → s.heap.get? b = some o → h'.get? b = some o) ∧ ItAt h' I (k + 1) src) (fun _ _ => False) s := by
  cases src with
  | lst p =>
    obtain ⟨vs, h1, h2⟩ := i.list hl
    obtain ⟨v, q1, q2⟩ := h2.get ha
    exact wpAny_pyNext_list_item hI h1 (by simpa using q1) fun h' k1 k2 => ⟨v, h', _, rfl, q2, rfl, fun b o hb e => k2.extBut b o hb e, k1⟩
  | rng x m st =>
    obtain rfl : l = _ := hl
    have hk : k < m := by
      rcases Nat.lt_or_ge k m with q | q
      · exact q
      · rw [List.getElem?_eq_none (by simpa using q)] at ha; cases ha
    have e : a = .int (x + (k : Int) * st) := by
      rw [List.getElem?_map, List.getElem?_range hk] at ha; exact (Option.some.inj ha).symm
    subst e
    refine wpAny_pyNext_range_item hI (by omega) fun h' k1 k2 => ⟨_, h', _, rfl, .int _ _, rfl, fun b o hb e => k2.extBut b o hb e, ?_⟩
    show IsRangeIter _ _ _ _ _
    have e1 : x + ((k + 1 : Nat) : Int) * st = x + (k : Int) * st + st := by rw [Int.natCast_add, Int.add_mul]; simp; omega
    have e2 : (m : Int) - ((k + 1 : Nat) : Int) = (m : Int) - (k : Int) - 1 := by omega
    rw [e1, e2]; exact k1
theorem done_src {A : Around} {s : Shared} {src : Src} {l : List AV} {I : Addr} {k : Nat} (hh : A.handled = none) (i : HI B H s.heap) (hI : ItAt s.heap I k src) (hl : src.items H l) (hk : l.length ≤ k) :
    wpAny (model prog w) A (pyNext (.ref I)) (fun r s' => ∃ h', r = none ∧ s' = { s with heap := h' } ∧ (∀ b o, b ≠ I → s.heap.get? b = some o → h'.get? b = some o)) (fun _ _ => False) s := by
  cases src with
  | lst p =>
    obtain ⟨vs, h1, h2⟩ := i.list hl
    have e := h2.length
    exact wpAny_pyNext_list_end hh hI h1 (by simp; omega) fun h' k2 => ⟨h', rfl, rfl, fun b o hb e => k2 b o hb e⟩
  | rng x m st =>
    obtain rfl : l = _ := hl
    have : m ≤ k := by simpa using hk
    exact wpAny_pyNext_range_end hh hI (by omega) fun h' k2 => ⟨h', rfl, rfl, fun b o hb e => k2 b o hb e⟩

def wpSrc (prog : Program) (w : World) (B : Heap) (n : Nat) (env : Env) (V : Vars) (H : AH) (e : Expr) (K : Src → AH → Prop) : Prop :=
  ∀ A s, Room A n → Inv B env V H s → wpAny (model prog w) A (eval e env) (fun v s' => ∃ src H', K src H' ∧ SrcAt s'.heap v src ∧ Ext H s H' s') (fun _ _ => False) s
theorem R_val {e : Expr} {K : Src → AH → Prop} (h : wpV prog w B n env V H (eval e env) (fun a H₁ => ∃ p, a = .ref p ∧ K (.lst p) H₁)) : wpSrc prog w B n env V H e K := fun A s r i =>
  wpAny_mono (h A s r i) (fun v s' ⟨a, H', ⟨p, e, k⟩, h2, h3⟩ => by subst e; exact ⟨_, _, k, h2.toRef, h3⟩) fun _ _ e => e

theorem small_up {m : Nat} (hm : m ≤ 1000000) : Builtin.Range.small 0 m 1 = true ∧ Builtin.Range.rangeSize 0 m 1 = (m : Int) := by
  have e : Builtin.Range.rangeSize 0 m 1 = (m : Int) := by
    unfold Builtin.Range.rangeSize
    rw [if_pos (by decide)]
    split
    · rw [Int.ediv_one]; omega
    · omega
  refine ⟨?_, e⟩
  unfold Builtin.Range.small
  rw [e]
  have f : ∀ x : Int, -1000001 ≤ x → x ≤ 1000001 → Builtin.Range.rangeFitsLong x = true := fun x h1 h2 => by
    unfold Builtin.Range.rangeFitsLong; simp only [Bool.and_eq_true, decide_eq_true_eq]; omega
  rw [f 0 (by decide) (by decide), f m (by omega) (by omega), f 1 (by decide) (by decide)]
  simp only [Bool.and_self, Bool.true_and, Bool.or_eq_true]
  right
  rw [if_pos (by decide)]
  exact f _ (by omega) (by omega)
theorem small_dn {m : Nat} (hm : m ≤ 1000000) : Builtin.Range.small ((m : Int) - 1) (-1) (-1) = true ∧ Builtin.Range.rangeSize ((m : Int) - 1) (-1) (-1) = (m : Int) := by
  have e : Builtin.Range.rangeSize ((m : Int) - 1) (-1) (-1) = (m : Int) := by
    unfold Builtin.Range.rangeSize
    rw [if_neg (by decide)]
    split
    · rw [show (- -1 : Int) = 1 by decide, Int.ediv_one]; omega
    · omega
  refine ⟨?_, e⟩
  unfold Builtin.Range.small
  rw [e]
  have f : ∀ x : Int, -1000001 ≤ x → x ≤ 1000001 → Builtin.Range.rangeFitsLong x = true := fun x h1 h2 => by
    unfold Builtin.Range.rangeFitsLong; simp only [Bool.and_eq_true, decide_eq_true_eq]; omega
  rw [f _ (by omega) (by omega), f (-1) (by decide) (by decide), f m (by omega) (by omega)]
  simp only [Bool.and_self, Bool.true_and, Bool.or_eq_true]
  right
  rw [if_neg (by decide)]
  exact f _ (by decide) (by decide)

variable {mg mb : Str → Option Value}
theorem range_name : bootBuiltins (Str.ofString "range") = some (.type "range") := by boot_by_name

theorem R_up {p pos : Pos} {e : Expr} {K : Src → AH → Prop} (G : Gl B mg mb) (P : Plain env) (hm : mg (Str.ofString "range") = none)
    (hx : env.kindOf (Str.ofString "range") = some .globalImplicit) (he : starEach [e] env = (false, eval e env) :: starEach [] env)
    (h : wpV prog w B n env V H (eval e env) (fun a H₁ => ∃ m : Nat, a = .int (m : Int) ∧ m ≤ 1000000 ∧ K (.rng 0 m 1) H₁)) : wpSrc prog w B n env V H (.Call (.Name (Str.ofString "range") p) [e] [] pos) K := fun A s r i => by
  refine wpAny_Call_NameR (name_builtin G P i hm range_name (by decide) hx (by decide) ?_)
  refine PyProof.Rows.callWith_type1 ?_ he rfl
  rw [he]
  refine spliced_cons (wpAny_mono (h A s r i) (fun v s₁ ⟨a, H₁, ⟨m, e, hm, k⟩, h2, h3⟩ => spliced_nil ?_) fun _ _ e => e)
  subst e; obtain ⟨t, rfl⟩ := h2.toInt
  refine call_range_1 ⟨_, _, k, ?_, h3.trans (.grown (h3.hi i.hi) push_keeps)⟩
  exact ⟨_, _, _, _, _, rfl, Heap.get?_push_size _ rfl, (small_up hm).1, (small_up hm).2⟩
theorem R_dn {p pos : Pos} {e₁ e₂ e₃ : Expr} {K : Src → AH → Prop} (G : Gl B mg mb) (P : Plain env) (hm : mg (Str.ofString "range") = none)
    (hx : env.kindOf (Str.ofString "range") = some .globalImplicit) (he : starEach [e₁, e₂, e₃] env = (false, eval e₁ env) :: starEach [e₂, e₃] env) (hp : (backTo pos (starEach [e₂, e₃] env)).any (·.1) = false)
    (h : wpL prog w B n env V H (spliced (backTo pos (starEach [e₁, e₂, e₃] env))) (fun l H₁ => ∃ m : Nat, l = [.int ((m : Int) - 1), .int (-1), .int (-1)] ∧ m ≤ 1000000 ∧ K (.rng ((m : Int) - 1) m (-1)) H₁)) : wpSrc prog w B n env V H (.Call (.Name (Str.ofString "range") p) [e₁, e₂, e₃] [] pos) K := fun A s r i => by
  refine wpAny_Call_NameR (name_builtin G P i hm range_name (by decide) hx (by decide) ?_)
  refine PyProof.Rows.callWith_type1 (wpAny_mono (h A s r i) (fun vs s₁ zz => ?_) fun _ _ e => e) he hp
  obtain ⟨l, H₁, ⟨m, e, hm, k⟩, h2, h3⟩ := zz
  subst e
  cases h2 with | cons a1 h2 => cases h2 with | cons a2 h2 => cases h2 with | cons a3 h2 =>
    cases h2
    obtain ⟨t1, rfl⟩ := a1.toInt; obtain ⟨t2, rfl⟩ := a2.toInt; obtain ⟨t3, rfl⟩ := a3.toInt
    refine call_range_3 (by decide) ⟨_, _, k, ?_, h3.trans (.grown (h3.hi i.hi) push_keeps)⟩ (.inl ?_)
    · exact ⟨_, _, _, _, _, rfl, Heap.get?_push_size _ rfl, (small_dn hm).1, (small_dn hm).2⟩
    · exact PyProof.noPylong_of_log2 (by decide +kernel)
end

section
variable {prog : Program} {w : World} {B : Heap} {n : Nat} {env : Env} {V : Vars} {H : AH} {K : AF → Vars → AH → Prop}

def Again (I : Vars → AH → Prop) (V : Vars) (H : AH) : Prop := ∃ V' H', VSub V' V ∧ HSub H' H ∧ I V' H'
theorem Again.here {I : Vars → AH → Prop} {V : Vars} {H : AH} (h : I V H) : Again I V H := ⟨V, H, VSub.refl V, HSub.refl H, h⟩

def loopK (prog : Program) (w : World) (B : Heap) (n : Nat) (env : Env) (rest : List Stmt) (J : Vars → AH → Prop) (K : AF → Vars → AH → Prop) (f : AF) (V : Vars) (H : AH) : Prop :=
  match f with
  | .next => J V H
  | .cont => J V H
  | .brk => wpS prog w B n env V H rest K
  | .ret a => K (.ret a) V H

theorem exec_next {A : Around} {s s₁ : Shared} {V₁ : Vars} {H₁ : AH} {rest : List Stmt} {f : AF} (h : wpS prog w B n env V₁ H₁ rest K) (i : Inv B env V₁ H₁ s₁) (x : ExtS env H s H₁ s₁) : postS B env H s (andThen prog w B n env rest K) .next s₁ :=
  ⟨.next, _, _, h, .next, i, x⟩

theorem S_while {test : Expr} {body : List Stmt} {pos : Pos} {rest : List Stmt} (I : Nat → Vars → AH → Prop) (n₀ : Nat) (h0 : I n₀ V H)
    (step : ∀ m V' H', I m V' H' → wpB prog w B n env V' H' (isTrue test env (eval test env)) (fun b H'' =>
      (b = true → wpS prog w B n env V' H'' body (loopK prog w B n env rest (fun V H => ∃ m', m' < m ∧ Again (I m') V H) K)) ∧ (b = false → wpS prog w B n env V' H'' rest K))) :
    wpS prog w B n env V H (.While test body [] pos :: rest) K := S_cons fun A s r i => by
  refine wpAny_While ?_
  refine codeAny_whileLoop (fun m s' => ∃ V' H', I m V' H' ∧ Inv B env V' H' s' ∧ ExtS env H s H' s') ?_ n₀ ⟨V, H, h0, i, .refl⟩
  rintro m s₁ ⟨V₁, H₁, h1, i1, x1⟩
  refine wpAny_mono (step m V₁ H₁ h1 _ s₁ r.mark i1) (fun b s₂ zz => ?_) fun _ _ e => e.elim
  obtain ⟨H₂, ⟨k1, k2⟩, k3⟩ := zz
  have i2 := k3.inv i1
  have x2 := x1.trans i1.ei k3.toS
  cases b with
  | true =>
    simp only [if_true]
    refine wpAny_mono (k1 rfl _ s₂ r.mark i2) (fun f s₃ zz => ?_) fun _ _ e => e.elim
    obtain ⟨af, V₃, H₃, q1, q2, q3, q4⟩ := zz
    have x3 := x2.trans i2.ei q4
    cases q2 with
    | next => obtain ⟨m', hm, V', H', a, b, c⟩ := q1; exact ⟨m', hm, V', H', c, q3.weaken b a, x3.weaken b⟩
    | cont => obtain ⟨m', hm, V', H', a, b, c⟩ := q1; exact ⟨m', hm, V', H', c, q3.weaken b a, x3.weaken b⟩
    | brk => exact ⟨.next, _, _, q1, .next, q3, x3⟩
    | ret v => exact ⟨.ret _, _, _, q1, .ret v, q3, x3⟩
  | false =>
    simp only [Bool.false_eq_true, if_false]
    exact wpAny_execs_nil ⟨.next, _, _, k2 rfl, .next, i2, x2⟩

theorem listiter_go {A : Around} {s : Shared} {E : Value → Shared → Prop} {t : Expr} {a : AV} {F : Vars → Vars} {I : Addr} {k : Nat} {src : Src} {v : Value} {Q : Unit → Shared → Prop} (T : Tgt env t a F) (hv : VR s.heap v a) (hI : ItAt s.heap I k src) (hq : Q () s) :
    wpAny (model prog w) A (letOwnedTupleGo t (.ref I) v) Q E s := by
  cases T with
  | name hx => exact wpAny_pure hq
  | two hx hy =>
    cases hv with
    | tup t1 t2 =>
      cases src with
      | lst p => exact wpAny_letOwnedTupleGo_listiter hI hq
      | rng x m st =>
        unfold letOwnedTupleGo
        refine wpAny_bind (wpAny_load hI ?_)
        show wpAny _ A (if (["enumerate", "zip", "dict_itemiterator", "dict_reverseitemiterator", "odict_iterator", "itertools.zip_longest", "itertools.pairwise"].contains "range_iterator" && _) = true then _ else _) Q E s
        rw [show (["enumerate", "zip", "dict_itemiterator", "dict_reverseitemiterator", "odict_iterator", "itertools.zip_longest", "itertools.pairwise"].contains "range_iterator") = false from by decide, Bool.false_and, if_neg Bool.false_ne_true]
        exact wpAny_pure hq

theorem ExtS.but {H₁ : AH} {s s₁ : Shared} (x : ExtS env H s H₁ s₁) {I : Addr} (hI : s.heap.get? I = none) {h' : Heap} {tk : Nat} (hk : ∀ b o, b ≠ I → s₁.heap.get? b = some o → h'.get? b = some o) : ExtS env H s H₁ { s₁ with heap := h', toks := tk } := by
  obtain ⟨h, t, rfl⟩ := x.out
  exact ⟨⟨_, _, rfl⟩, fun b o e k k1 k2 => hk b o (fun q => by rw [q, hI] at e; cases e) (x.keep b o e k k1 k2), fun b o e => (let ⟨o', e'⟩ := x.stay b o e; ⟨o', hk b o' (fun q => by rw [q, hI] at e; cases e) e'⟩), x.fresh⟩

theorem S_for {target iter : Expr} {body : List Stmt} {pos : Pos} {rest : List Stmt} (P : Plain env) (hs : ∀ x, foldedSetIterable iter env x = pure x)
    (h : wpSrc prog w B n env V H iter (fun src H₁ => ∃ l, src.items H₁ l ∧ ∃ I : Nat → Vars → AH → Prop, I 0 V H₁ ∧ (∀ k V' H', I k V' H' → src.items H' l) ∧
      (∀ k a V' H', l[k]? = some a → I k V' H' → ∃ F, Tgt env target a F ∧ wpS prog w B n env (F V') H' body (loopK prog w B n env rest (Again (I (k + 1))) K)) ∧
      (∀ V' H', I l.length V' H' → wpS prog w B n env V' H' rest K))) :
    wpS prog w B n env V H (.For target iter body [] pos :: rest) K := S_cons fun A s r i => by
  refine wpAny_For (wpAny_mono (h A s r i) (fun v s₁ zz => ?_) fun _ _ e => e.elim) hs
  obtain ⟨src, H₁, ⟨l, hl, I, h0, hit, hstep, hend⟩, h2, h3⟩ := zz
  have i1 := h3.inv i
  refine wpAny_mono (iter_src i1.hi h2 hl) (fun it s₂ zz => ?_) fun _ _ e => e.elim
  obtain ⟨J, h', e1, hJ, e2, hk, hJt⟩ := zz
  subst e1; subst e2
  have i2 := grown_inv (tk := s₁.toks) i1 hk
  have x2 : ExtS env H s H₁ { s₁ with heap := h' } := h3.toS.trans i1.ei ((Ext.grown (tk := s₁.toks) i1.hi hk).toS)
  have hJ₀ : s.heap.get? J = none := by
    cases e : s.heap.get? J with
    | none => rfl
    | some o => obtain ⟨o', q⟩ := h3.stay J o e; rw [hJ] at q; cases q
  have hB : B.get? J = none := by
    cases e : B.get? J with
    | none => rfl
    | some o => have := i.hi.keep J o e; rw [hJ₀] at this; cases this
  refine codeAny_forLoop_any (fun m s' => ∃ k V' H', m = l.length + 1 - k ∧ k ≤ l.length ∧ I k V' H' ∧ Inv B env V' H' s' ∧ ExtS env H s H' s' ∧ ItAt s'.heap J k src) ?_ (l.length + 1)
    ⟨0, V, H₁, rfl, Nat.zero_le _, h0, i2, x2, hJt⟩
  rintro m s₃ ⟨k, V₃, H₃, rfl, hk3, hI, i3, x3, hJ3⟩
  have hl3 := hit k V₃ H₃ hI
  obtain ⟨ob, fs, f1, f2⟩ := hJ3.fields
  rcases Nat.lt_or_ge k l.length with hlt | hge
  · obtain ⟨a, ha⟩ : ∃ a, l[k]? = some a := ⟨_, List.getElem?_eq_getElem hlt⟩
    obtain ⟨F, T, hb⟩ := hstep k a V₃ H₃ ha hI
    refine wpAny_mono (next_src i3.hi hJ3 hl3 ha) (fun rr s₄ zz => ?_) fun _ _ e => e.elim
    obtain ⟨v, h₄, tk₄, e3, e4, e5, e6, e7⟩ := zz
    subst e3; subst e5
    have e6' : ∀ b o, b ≠ J → s₃.heap.get? b = some o → h₄.get? b = some o := e6
    have i4 := (i3.but (tk := tk₄) f1 f2 hB e6').1
    have tk4 := (i3.but (tk := tk₄) f1 f2 hB e6').2
    have x4 : ExtS env H s H₃ { s₃ with heap := h₄, toks := tk₄ } := x3.but hJ₀ e6'
    refine listiter_go (src := src) (k := k + 1) T (e4.mono tk4) e7 ?_
    refine wpAny_mono (assign_tgt r.hd T i4 (e4.mono tk4) P) (fun _ s₅ zz => ?_) fun _ _ e => e.elim
    obtain ⟨i5, x5⟩ := zz
    have x5' := x4.trans i4.ei x5
    obtain ⟨ob', fs', g1, g2⟩ := e7.fields
    have hJ5 : ItAt s₅.heap J (k + 1) src := e7.at fun o e => by rw [g1] at e; cases e; exact x5.rec_ i4 g1 g2
    refine wpAny_mono (hb _ s₅ r.mark i5) (fun f s₆ zz => ?_) fun _ _ e => e.elim
    obtain ⟨af, V₆, H₆, q1, q2, q3, q4⟩ := zz
    have x6 := x5'.trans i5.ei q4
    have hJ6 : ItAt s₆.heap J (k + 1) src := by
      obtain ⟨ob', fs', g1, g2⟩ := hJ5.fields
      exact hJ5.at fun o e => by rw [g1] at e; cases e; exact q4.rec_ i5 g1 g2
    cases q2 with
    | next => obtain ⟨V', H', a, b, c⟩ := q1; exact ⟨_, (by omega : l.length + 1 - (k + 1) < l.length + 1 - k), k + 1, V', H', rfl, hlt, c, q3.weaken b a, x6.weaken b, hJ6⟩
    | cont => obtain ⟨V', H', a, b, c⟩ := q1; exact ⟨_, (by omega : l.length + 1 - (k + 1) < l.length + 1 - k), k + 1, V', H', rfl, hlt, c, q3.weaken b a, x6.weaken b, hJ6⟩
    | brk => exact ⟨.next, _, _, q1, .next, q3, x6⟩
    | ret v => exact ⟨.ret _, _, _, q1, .ret v, q3, x6⟩
  · obtain rfl : k = l.length := Nat.le_antisymm hk3 hge
    refine wpAny_mono (done_src (A := A.mark none) r.hd i3.hi hJ3 hl3 (Nat.le_refl _)) (fun rr s₄ zz => ?_) fun _ _ e => e.elim
    obtain ⟨h₄, e3, e5, e6⟩ := zz
    subst e3; subst e5
    have i4 := (i3.but (tk := s₃.toks) f1 f2 hB e6).1
    have x4 : ExtS env H s H₃ { s₃ with heap := h₄ } := x3.but (tk := s₃.toks) hJ₀ e6
    exact wpAny_execs_nil ⟨.next, _, _, hend V₃ H₃ hI, .next, i4, x4⟩
end

structure Priv (B : Heap) (env : Env) (H : AH) (h : Heap) (X : Addr) : Prop where
  H : ∀ e ∈ H, e.1 ≠ X
  L : env.locals ≠ X
  C : ∀ x c, env.cells.lookup x = some c → c ≠ X
  B : B.get? X = none
  T : ∀ vs n, ¬ IsT h X vs n

section
variable {prog : Program} {w : World} {B : Heap} {n : Nat} {env : Env} {V : Vars} {H : AH}

theorem Priv.tk {h h' : Heap} {X : Addr} (p : Priv B env H h X) (hk : ∀ b o, b ≠ X → h.get? b = some o → h'.get? b = some o) : TupKeep h h' := fun a vs k y => hk a _ (fun q => by subst q; exact p.T _ _ y) y
theorem Inv.priv {s : Shared} (i : Inv B env V H s) {X : Addr} (p : Priv B env H s.heap X) {h' : Heap} {tk : Nat} (hk : ∀ b o, b ≠ X → s.heap.get? b = some o → h'.get? b = some o) : Inv B env V H { s with heap := h', toks := tk } := by
  have tkp := p.tk hk
  obtain ⟨m, hm, hq⟩ := i.ei.loc
  refine ⟨⟨fun b o e => hk b o (fun q => by rw [q, p.B] at e; cases e) (i.hi.keep b o e), i.hi.nd, fun e he => (i.hi.hr e he).keep tkp fun ob q => hk _ _ (p.H e he) q, i.hi.hb⟩,
    ⟨⟨m, hm.at' fun o e => hk _ o p.L e, fun z a e k => ?_⟩, fun z c e => ?_, i.ei.lH, i.ei.lB, i.ei.cB, i.ei.ci⟩⟩
  · obtain ⟨u, q1, q2⟩ := hq z a e k; exact ⟨u, q1, q2.mono tkp⟩
  · obtain ⟨ob', u, q1, q2, q3⟩ := i.ei.cel z c e
    exact ⟨ob', u, hk c ob' (p.C z c e) q1, q2, fun a ha k => let ⟨v, z1, z2⟩ := q3 a ha k; ⟨v, z1, z2.mono tkp⟩⟩
theorem Ext.priv {H₁ : AH} {s s₁ : Shared} (x : Ext H s H₁ s₁) {X : Addr} (hX : s.heap.get? X = none) (hr : ∀ e ∈ H₁, e.1 ≠ X) (hT : ∀ vs n, ¬ IsT s₁.heap X vs n) {h' : Heap} {tk : Nat} (hk : ∀ b o, b ≠ X → s₁.heap.get? b = some o → h'.get? b = some o) : Ext H s H₁ { s₁ with heap := h', toks := tk } := by
  obtain ⟨h, t, rfl⟩ := x.out
  have tkp : TupKeep h h' := fun a vs k y => hk a _ (fun q => by subst q; exact hT _ _ y) y
  exact ⟨⟨_, _, rfl⟩, fun b o e k => hk b o (fun q => by rw [q, hX] at e; cases e) (x.keep b o e k), fun b o e => (let ⟨o', e'⟩ := x.stay b o e; ⟨o', hk b o' (fun q => by rw [q, hX] at e; cases e) e'⟩), x.nd, fun e he => (x.hr e he).keep tkp fun ob q => hk _ _ (hr e he) q, x.fresh⟩

theorem Ext.apart {H₁ : AH} {s s₁ : Shared} (x : Ext H s H₁ s₁) {X : Addr} {o : Obj} (e : s.heap.get? X = some o) (hr : ∀ e ∈ H, e.1 ≠ X) : ∀ e ∈ H₁, e.1 ≠ X := fun e' he q => by
  rcases x.fresh e' he with ⟨e₀, h₀, q'⟩ | q'
  · exact hr e₀ h₀ (q'.trans q)
  · rw [q, e] at q'; cases q'

structure Sees (env cenv : Env) (V V' : Vars) : Prop where
  P : Plain env
  k : cenv.scope.kind = .function
  g : cenv.globals = env.globals
  b : cenv.builtins = env.builtins
  c : ∀ x c, cenv.cells.lookup x = some c → env.cells.lookup x = some c
  V : ∀ x a, V'.lookup x = some a → V.lookup x = some a ∧ cenv.kindOf x ≠ some .local ∧ env.kindOf x ≠ some .local
theorem Sees.plain {cenv : Env} {V' : Vars} (S : Sees env cenv V V') : Plain cenv := ⟨S.k, S.g.trans S.P.g, S.b.trans S.P.b⟩
theorem Sees.inv {s : Shared} {cenv : Env} {V' : Vars} (S : Sees env cenv V V') (i : Inv B env V H s) (hn : ∃ m, s.heap.Ns cenv.locals m) (hH : ∀ e ∈ H, e.1 ≠ cenv.locals) (hB : B.get? cenv.locals = none) : Inv B cenv V' H s := by
  refine ⟨i.hi, ⟨?_, fun x c e => ?_, hH, hB, fun x c e => i.ei.cB x c (S.c x c e), fun x y c e e' => i.ei.ci x y c (S.c x c e) (S.c y c e')⟩⟩
  · obtain ⟨m, hm⟩ := hn
    exact ⟨m, hm, fun x a e k => absurd k (S.V x a e).2.1⟩
  · obtain ⟨ob, u, h1, h2, h3⟩ := i.ei.cel x c (S.c x c e)
    exact ⟨ob, u, h1, h2, fun a ha k => h3 a (S.V x a ha).1 (S.V x a ha).2.2⟩

/-! targets of a block: its own names -/
inductive TgtL (env : Env) : Expr → AV → (Vars → Vars) → Prop
  | name {x : Str} {p : Pos} {a : AV} : env.kindOf x = some .local → TgtL env (.Name x p) a (fun V => (x, a) :: V)
  | two {x y : Str} {p q tp : Pos} {k : Nat} {a b : AV} : env.kindOf x = some .local → env.kindOf y = some .local → TgtL env (.Tuple [.Name x p, .Name y q] k tp) (.tup [a, b]) (fun V => (y, b) :: (x, a) :: V)
theorem TgtL.tgt {t : Expr} {a : AV} {F : Vars → Vars} (T : TgtL env t a F) : Tgt env t a F := by
  cases T with
  | name h => exact .name (.loc h)
  | two h k => exact .two (.loc h) (.loc k)

def OnlyL (env : Env) (s s' : Shared) : Prop := (∃ h tk, s' = { s with heap := h, toks := tk }) ∧ ∀ b o, b ≠ env.locals → s.heap.get? b = some o → s'.heap.get? b = some o
theorem OnlyL.trans {s s' s'' : Shared} (x : OnlyL env s s') (y : OnlyL env s' s'') : OnlyL env s s'' := by
  obtain ⟨⟨h, t, rfl⟩, k⟩ := x
  obtain ⟨⟨h', t', rfl⟩, k'⟩ := y
  exact ⟨⟨_, _, rfl⟩, fun b o hb e => k' b o hb (k b o hb e)⟩
theorem store_local' {A : Around} {s : Shared} {x : Str} {v : Value} {a : AV} (i : Inv B env V H s) (hv : VR s.heap v a) (P : Plain env) (hx : env.kindOf x = some .local) :
    wpAny (model prog w) A (storeName env x v) (fun _ s' => Inv B env ((x, a) :: V) H s' ∧ OnlyL env s s' ∧ TupKeep s.heap s'.heap) (fun _ _ => False) s := by
  obtain ⟨m, hm, hq⟩ := i.ei.loc
  refine wpAny_storeName_local hx hm (fun h' hn hs => ?_) (by rw [P.k]; rfl)
  have keep : ∀ b o, b ≠ env.locals → s.heap.get? b = some o → h'.get? b = some o := fun b o hb e => hs.extBut b o hb e
  have tk : TupKeep s.heap h' := fun a vs k y => keep a _ (fun q => by
    obtain ⟨o, es, ep, ho, hd, _⟩ := hm
    rw [q] at y; unfold IsT at y; rw [y] at ho; injection ho with ho; subst ho; cases hd) y
  have hH : ∀ e ∈ H, OR h' e.1 e.2 := fun e he => (i.hi.hr e he).keep tk fun ob q => keep _ _ (i.ei.lH e he) q
  refine ⟨⟨⟨fun b o e => keep b o (fun q => by rw [q, i.ei.lB] at e; cases e) (i.hi.keep b o e), i.hi.nd, hH, i.hi.hb⟩, ⟨⟨_, hn, fun z b e k => ?_⟩, fun z c e => ?_, i.ei.lH, i.ei.lB, i.ei.cB, i.ei.ci⟩⟩, ⟨⟨_, _, rfl⟩, keep⟩, tk⟩
  · rw [List.lookup_cons] at e
    split at e
    · rename_i q; cases e; exact ⟨v, by rw [if_pos (beq_str q)], hv.mono tk⟩
    · rename_i q
      obtain ⟨u, h1, h2⟩ := hq z b e k
      exact ⟨u, by rw [if_neg (fun w => by rw [w] at q; simp at q)]; exact h1, h2.mono tk⟩
  · obtain ⟨ob, u, h1, h2, h3⟩ := i.ei.cel z c e
    refine ⟨ob, u, keep c ob (fun q => ?_) h1, h2, fun b hb k => ?_⟩
    · obtain ⟨o, es, ep, ho, hd, _⟩ := hm
      rw [q] at h1; rw [h1] at ho; injection ho with ho; subst ho; rw [h2] at hd; cases hd
    · rw [List.lookup_cons] at hb
      split at hb
      · rename_i q; exact absurd (beq_str q ▸ hx) k
      · obtain ⟨y, y1, y2⟩ := h3 b hb k; exact ⟨y, y1, y2.mono tk⟩
theorem assign_tgtL {A : Around} {s : Shared} {t : Expr} {v : Value} {a : AV} {F : Vars → Vars} (hh : A.handled = none) (T : TgtL env t a F) (i : Inv B env V H s) (hv : VR s.heap v a) (P : Plain env) :
    wpAny (model prog w) A (assign t env v) (fun _ s' => Inv B env (F V) H s' ∧ OnlyL env s s') (fun _ _ => False) s := by
  cases T with
  | name hx => exact wpAny_assign_Name (wpAny_mono (store_local' i hv P hx) (fun _ _ h => ⟨h.1, h.2.1⟩) fun _ _ e => e)
  | two hx hy =>
    cases hv with
    | tup t1 t2 =>
      obtain ⟨u, v, rfl, q1, q2⟩ := t2.two
      refine assign_Tuple_tuple hh ⟨_, t1, rfl, _, rfl⟩ rfl rfl fun h' he => ?_
      have hk := extBut_keep he
      have i' := grown_inv (tk := s.toks) i hk
      have E : OnlyL env s { s with heap := h' } := ⟨⟨_, _, rfl⟩, fun b o _ e => hk b o e⟩
      refine assignInOrder_cons (wpAny_assign_Name (wpAny_mono (store_local' i' (q1.mono (tk_of_keep hk)) P hx) (fun _ s₁ h₁ => ?_) fun _ _ e => e))
      refine assignInOrder_cons (wpAny_assign_Name (wpAny_mono (store_local' h₁.1 ((q2.mono (tk_of_keep hk)).mono h₁.2.2) P hy) (fun _ s₂ h₂ => assignInOrder_nil ⟨h₂.1, (E.trans h₁.2.1).trans h₂.2.1⟩) fun _ _ e => e))
end

section
variable {prog : Program} {w : World} {B : Heap} {n : Nat} {env : Env} {V : Vars} {H : AH}

def testsOf (prog : Program) (w : World) (B : Heap) (n : Nat) (cenv : Env) (V : Vars) (H : AH) (ifs : List Expr) (K : Bool → AH → Prop) : Prop :=
  match ifs with
  | [] => K true H
  | [c] => wpB prog w B n cenv V H (isTrue c cenv (eval c cenv)) K
  | _ => False
def testsW (prog : Program) (w : World) (A : Around) (cenv : Env) (E : Value → Shared → Prop) (Y N : Shared → Prop) (ifs : List Expr) (s : Shared) : Prop :=
  match ifs with
  | [] => Y s
  | [c] => wpAny (model prog w) A (isTrue c cenv (eval c cenv)) (fun ok s' => if ok = true then Y s' else N s') E s
  | _ => False
theorem tests_run {A : Around} {s : Shared} {cenv : Env} {ifs : List Expr} {K : Bool → AH → Prop} {E : Value → Shared → Prop} {Y N : Shared → Prop} (r : Room A n) (i : Inv B cenv V H s) (h : testsOf prog w B n cenv V H ifs K)
    (hY : ∀ s' H', K true H' → Ext H s H' s' → Y s') (hN : ∀ s' H', K false H' → Ext H s H' s' → N s') : testsW prog w A cenv E Y N ifs s := by
  match ifs, h with
  | [], h => exact hY s H h (.refl i.hi)
  | [c], h =>
    refine wpAny_mono (h A s r i) (fun b s' zz => ?_) fun _ _ e => e.elim
    obtain ⟨H', k, x⟩ := zz
    cases b with
    | true => exact hY s' H' k x
    | false => exact hN s' H' k x

def AgainJ (J : List AV → AH → Prop) (ys : List AV) (H : AH) : Prop := ∃ H', HSub H' H ∧ J ys H'
theorem AgainJ.here {J : List AV → AH → Prop} {ys : List AV} {H : AH} (h : J ys H) : AgainJ J ys H := ⟨H, HSub.refl H, h⟩

def turnJ (prog : Program) (w : World) (B : Heap) (n : Nat) (cenv : Env) (V' : Vars) (H : AH) (target elt : Expr) (ifs : List Expr) (a : AV) (ys : List AV) (J : List AV → AH → Prop) : Prop :=
  ∃ F, TgtL cenv target a F ∧ testsOf prog w B n cenv (F V') H ifs (fun b H₁ =>
    (b = true → wpV prog w B n cenv (F V') H₁ (eval elt cenv) (fun y H₂ => AgainJ J (ys ++ [y]) H₂)) ∧ (b = false → AgainJ J ys H₁))

theorem compLoop_go {elt target iter : Expr} {ifs : List Expr} {scope : Scope} {pos : Pos} {A : Around} {it acc : Value} {cenv : Env} {R : Result → Shared → Prop} {s : Shared} (hi : ifs.length ≤ 1) (I : Nat → Shared → Prop)
    (turn : ∀ E n s, I n s → wpAny (model prog w) A (pyNext it) (fun r s₁ => match r with
      | none => R (.ok .next) s₁
      | some v => wpAny (model prog w) A (letOwnedTupleGo target it v) (fun _ s₂ => wpAny (model prog w) A (assign target cenv v) (fun _ s₃ =>
          testsW prog w A cenv E (fun s₄ => wpAny (model prog w) A (eval elt cenv) (fun x s₅ => wpAny (model prog w) A (call (.builtin "list.append") [acc, x]) (fun _ s₆ => ∃ m, m < n ∧ I m s₆) E s₅) E s₄) (fun s₄ => ∃ m, m < n ∧ I m s₄) ifs s₃) E s₂) E s₁) E s)
    (n : Nat) (h : I n s) : codeAny (model prog w) A (.compLoop (.ListComp elt [⟨target, iter, ifs, 0⟩] scope pos) 0 it acc cenv) R s := by
  match ifs, hi with
  | [], _ => exact PySem.W.kcp_loop I (turn _) n h
  | [c], _ => exact PySem.W.kct_loop I (turn _) n h
  | _ :: _ :: _, hi => exact absurd hi (by simp)

structure Left (B : Heap) (env : Env) (V : Vars) (H : AH) (s : Shared) (C D : Addr) (ys : List AV) (H' : AH) (s' : Shared) : Prop where
  i : Inv B env V H' s'
  x : Ext H s H' s'
  lD : ∃ vs k, IsL s'.heap D (List.toArray vs) k ∧ VRs s'.heap vs ys
  lC : ∃ m, s'.heap.Ns C m
  pC : Priv B env H' s'.heap C
  pD : Priv B env H' s'.heap D
  fC : s.heap.get? C = none
  fD : s.heap.get? D = none
  ne : C ≠ D

theorem isL_not_tup {h : Heap} {a : Addr} {o : Obj} (e : h.get? a = some o) (hc : o.cls = .type "list") : ∀ vs n, ¬ IsT h a vs n := fun vs n y => by
  unfold IsT at y; rw [e] at y; injection y with y; subst y; exact absurd (show Value.type "tuple" = Value.type "list" from hc) (by decide)
theorem ns_not_tup {h : Heap} {a : Addr} {m : Str → Option Value} (e : h.Ns a m) : ∀ vs n, ¬ IsT h a vs n := fun vs n y => by
  obtain ⟨o, es, ep, ho, hd, _⟩ := e
  unfold IsT at y; rw [y] at ho; injection ho with ho; subst ho; cases hd
theorem rec_not_tup {h : Heap} {a : Addr} {o : Obj} {fs : Array Value} (e : h.get? a = some o) (hd : o.data = .fields fs) : ∀ vs n, ¬ IsT h a vs n := fun vs n y => by
  unfold IsT at y; rw [e] at y; injection y with y; subst y; cases hd
theorem Priv.of_fresh {s : Shared} (i : Inv B env V H s) {H' : AH} {h' : Heap} {X : Addr} (hX : s.heap.get? X = none) (hH : ∀ e ∈ H', e.1 ≠ X) (hT : ∀ vs n, ¬ IsT h' X vs n) : Priv B env H' h' X := by
  refine ⟨hH, fun q => ?_, fun x c e q => ?_, ?_, hT⟩
  · obtain ⟨o, ho⟩ := i.ei.locals; rw [q, hX] at ho; cases ho
  · obtain ⟨ob, u, h1, _⟩ := i.ei.cel x c e; rw [q, hX] at h1; cases h1
  · cases e : B.get? X with
    | none => rfl
    | some o => have := i.hi.keep X o e; rw [hX] at this; cases this
theorem hi_fresh {h : Heap} (x : HI B H h) {X : Addr} (hX : h.get? X = none) : ∀ e ∈ H, e.1 ≠ X := fun e he q => by
  obtain ⟨ob, ho⟩ := (x.hr e he).there; rw [q, hX] at ho; cases ho

structure Carry (B : Heap) (env : Env) (V : Vars) (H : AH) (s : Shared) (I C D : Addr) (src : Src) (k : Nat) (ys : List AV) (H' : AH) (s' : Shared) : Prop where
  i : Inv B env V H' s'
  x : Ext H s H' s'
  it : ItAt s'.heap I k src
  lD : ∃ vs c, IsL s'.heap D (List.toArray vs) c ∧ VRs s'.heap vs ys
  lC : ∃ m, s'.heap.Ns C m
  sI : ∀ e ∈ H', e.1 ≠ I
  sC : ∀ e ∈ H', e.1 ≠ C
  sD : ∀ e ∈ H', e.1 ≠ D
section
variable {s : Shared} {I C D : Addr} {src : Src} {k : Nat} {ys : List AV} {H' : AH} {s' : Shared}
theorem Carry.ext {H'' : AH} {s'' : Shared} (c : Carry B env V H s I C D src k ys H' s') (x : Ext H' s' H'' s'') : Carry B env V H s I C D src k ys H'' s'' := by
  obtain ⟨ob, fs, h1, h2⟩ := c.it.fields
  obtain ⟨vs, m, d1, d2⟩ := c.lD
  obtain ⟨mm, n1⟩ := c.lC
  obtain ⟨oC, es, ep, hC, hr⟩ := n1
  exact ⟨x.inv c.i, c.x.trans x, c.it.at fun o e => x.keep _ _ e c.sI, ⟨vs, m, x.keep _ _ d1 c.sD, d2.mono (x.tk c.i.hi)⟩, ⟨mm, oC, es, ep, x.keep _ _ hC c.sC, hr⟩, x.apart h1 c.sI, x.apart hC c.sC, x.apart d1 c.sD⟩
theorem Carry.weaken {H'' : AH} (c : Carry B env V H s I C D src k ys H' s') (j : HSub H'' H') : Carry B env V H s I C D src k ys H'' s' :=
  have m : ∀ X : Addr, (∀ e ∈ H', e.1 ≠ X) → ∀ e ∈ H'', e.1 ≠ X := fun X h e he => let ⟨o, h1, _⟩ := j.mem e he; h (e.1, o) h1
  ⟨c.i.weaken j (VSub.refl V), c.x.weaken j, c.it, c.lD, c.lC, m I c.sI, m C c.sC, m D c.sD⟩
theorem Carry.privI (c : Carry B env V H s I C D src k ys H' s') (i₀ : Inv B env V H s) (f : s.heap.get? I = none) : Priv B env H' s'.heap I :=
  let ⟨ob, fs, h1, h2⟩ := c.it.fields
  .of_fresh i₀ f c.sI (rec_not_tup h1 h2)
theorem Carry.privC (c : Carry B env V H s I C D src k ys H' s') (i₀ : Inv B env V H s) (f : s.heap.get? C = none) : Priv B env H' s'.heap C :=
  let ⟨m, h⟩ := c.lC
  .of_fresh i₀ f c.sC (ns_not_tup h)
theorem Carry.privD (c : Carry B env V H s I C D src k ys H' s') (i₀ : Inv B env V H s) (f : s.heap.get? D = none) : Priv B env H' s'.heap D :=
  let ⟨vs, m, h1, h2⟩ := c.lD
  .of_fresh i₀ f c.sD (isL_not_tup h1 rfl)
theorem Carry.next (c : Carry B env V H s I C D src k ys H' s') (i₀ : Inv B env V H s) (f : s.heap.get? I = none) (hIC : I ≠ C) (hID : I ≠ D) {h' : Heap} {tk : Nat} (hk : ∀ b o, b ≠ I → s'.heap.get? b = some o → h'.get? b = some o) {k' : Nat} (hit : ItAt h' I k' src) :
    Carry B env V H s I C D src k' ys H' { s' with heap := h', toks := tk } := by
  have p := c.privI i₀ f
  obtain ⟨vs, m, d1, d2⟩ := c.lD
  obtain ⟨mm, n1⟩ := c.lC
  exact ⟨c.i.priv p hk, c.x.priv f c.sI p.T hk, hit, ⟨vs, m, hk _ _ (Ne.symm hID) d1, d2.mono (p.tk hk)⟩, ⟨mm, n1.at' fun o e => hk _ o (Ne.symm hIC) e⟩, c.sI, c.sC, c.sD⟩
theorem Carry.names (c : Carry B env V H s I C D src k ys H' s') (i₀ : Inv B env V H s) (f : s.heap.get? C = none) (hIC : I ≠ C) (hCD : C ≠ D) {h' : Heap} {tk : Nat} (hk : ∀ b o, b ≠ C → s'.heap.get? b = some o → h'.get? b = some o) (hn : ∃ m, h'.Ns C m) :
    Carry B env V H s I C D src k ys H' { s' with heap := h', toks := tk } := by
  have p := c.privC i₀ f
  obtain ⟨vs, m, d1, d2⟩ := c.lD
  exact ⟨c.i.priv p hk, c.x.priv f c.sC p.T hk, c.it.at fun o e => hk _ o hIC e, ⟨vs, m, hk _ _ (Ne.symm hCD) d1, d2.mono (p.tk hk)⟩, hn, c.sI, c.sC, c.sD⟩
theorem Carry.grow (c : Carry B env V H s I C D src k ys H' s') (i₀ : Inv B env V H s) (f : s.heap.get? D = none) (hID : I ≠ D) (hCD : C ≠ D) {h' : Heap} {tk : Nat} (hk : ∀ b o, b ≠ D → s'.heap.get? b = some o → h'.get? b = some o) {ys' : List AV} (hl : ∃ vs c, IsL h' D (List.toArray vs) c ∧ VRs h' vs ys') :
    Carry B env V H s I C D src k ys' H' { s' with heap := h', toks := tk } := by
  have p := c.privD i₀ f
  obtain ⟨mm, n1⟩ := c.lC
  exact ⟨c.i.priv p hk, c.x.priv f c.sD p.T hk, c.it.at fun o e => hk _ o hID e, hl, ⟨mm, n1.at' fun o e => hk _ o hCD e⟩, c.sI, c.sC, c.sD⟩
end

theorem comp_loop {target elt iter : Expr} {ifs : List Expr} {scope : Scope} {pos : Pos} {cl : List (Str × Addr)} {A : Around} {s s₀ : Shared} {H₁ : AH} {I C D : Addr} {src : Src} {l : List AV} {V' : Vars} {R : Result → Shared → Prop} (J : Nat → List AV → AH → Prop)
    (r : Room A n) (i₀ : Inv B env V H s) (S : Sees env (compEnvC scope cl C env) V V') (c₀ : Carry B env V H s I C D src 0 [] H₁ s₀) (h0 : J 0 [] H₁) (hz : l.length ≤ 1000000)
    (hit : ∀ k ys H', J k ys H' → src.items H' l) (step : ∀ k a ys H', l[k]? = some a → J k ys H' → turnJ prog w B n (compEnvC scope cl C env) V' H' target elt ifs a ys (J (k + 1)))
    (fI : s.heap.get? I = none) (fC : s.heap.get? C = none) (fD : s.heap.get? D = none) (hIC : I ≠ C) (hID : I ≠ D) (hCD : C ≠ D)
    (hR : ∀ ys H' s', J l.length ys H' → Left B env V H s C D ys H' s' → R (.ok .next) s') (hi : ifs.length ≤ 1) :
    codeAny (model prog w) A (.compLoop (.ListComp elt [⟨target, iter, ifs, 0⟩] scope pos) 0 (.ref I) (.ref D) (compEnvC scope cl C env)) R s₀ := by
  refine compLoop_go hi (fun m s' => ∃ k ys H', m = l.length + 1 - k ∧ k ≤ l.length ∧ ys.length ≤ k ∧ J k ys H' ∧ Carry B env V H s I C D src k ys H' s') ?_ (l.length + 1)
    ⟨0, [], H₁, rfl, Nat.zero_le _, Nat.le_refl _, h0, c₀⟩
  rintro E m s₃ ⟨k, ys, H₃, rfl, hk, hy, hJ, c₃⟩
  have hl3 := hit k ys H₃ hJ
  rcases Nat.lt_or_ge k l.length with hlt | hge
  · obtain ⟨a, ha⟩ : ∃ a, l[k]? = some a := ⟨_, List.getElem?_eq_getElem hlt⟩
    obtain ⟨F, T, hb⟩ := step k a ys H₃ ha hJ
    refine wpAny_mono (next_src c₃.i.hi c₃.it hl3 ha) (fun rr s₄ zz => ?_) fun _ _ e => e.elim
    obtain ⟨v, h₄, tk₄, e3, e4, e5, e6, e7⟩ := zz
    subst e3; subst e5
    have c₄ := c₃.next (tk := tk₄) i₀ fI hIC hID e6 e7
    have e4' := e4.mono ((c₃.privI i₀ fI).tk e6)
    refine listiter_go (src := src) (k := k + 1) T.tgt e4' e7 ?_
    have ci := S.inv c₄.i c₄.lC c₄.sC (c₄.privC i₀ fC).B
    refine wpAny_mono (assign_tgtL r.hd T ci e4' S.plain) (fun _ s₅ zz => ?_) fun _ _ e => e.elim
    obtain ⟨ci₅, ⟨⟨h₅, tk₅, e8⟩, o5⟩⟩ := zz
    subst e8
    have c₅ := c₄.names (tk := tk₅) i₀ fC hIC hCD o5 (let ⟨m, hm, _⟩ := ci₅.ei.loc; ⟨m, hm⟩)
    refine tests_run r ci₅ hb (fun s₆ H₆ q q3 => ?_) fun s₆ H₆ q q3 => ?_
    · have c₆ := c₅.ext q3
      refine wpAny_mono (q.1 rfl A s₆ r (q3.inv ci₅)) (fun v s₇ zz => ?_) fun _ _ e => e.elim
      obtain ⟨y, H₇, ⟨H₈, j, z⟩, z2, z3⟩ := zz
      have c₇ := c₆.ext z3
      obtain ⟨vs, cc, d1, d2⟩ := c₇.lD
      have e9 := d2.length
      refine append_at (its := vs.toArray) (n := cc) d1 (fun h₈ hs hD => ?_) (by rw [List.size_toArray, sizeLine_eq]; omega)
      have hk8 : ∀ b o, b ≠ D → s₇.heap.get? b = some o → h₈.get? b = some o := fun b o hb e => hs.extBut b o hb e
      have tk8 := (c₇.privD i₀ fD).tk hk8
      have c₈ := (c₇.grow (tk := s₇.toks) i₀ fD hID hCD hk8 (ys' := ys ++ [y]) ⟨vs ++ [v], cc + 1, by rw [← List.push_toArray]; exact hD, (d2.snoc z2).mono tk8⟩).weaken j
      exact ⟨_, (by omega : l.length + 1 - (k + 1) < l.length + 1 - k), k + 1, ys ++ [y], H₈, rfl, hlt, by rw [List.length_append, List.length_singleton]; omega, z, c₈⟩
    · obtain ⟨H₇, j, z⟩ := q.2 rfl
      exact ⟨_, (by omega : l.length + 1 - (k + 1) < l.length + 1 - k), k + 1, ys, H₇, rfl, hlt, Nat.le_succ_of_le hy, z, (c₅.ext q3).weaken j⟩
  · obtain rfl : k = l.length := Nat.le_antisymm hk hge
    refine wpAny_mono (done_src r.hd c₃.i.hi c₃.it hl3 (Nat.le_refl _)) (fun rr s₄ zz => ?_) fun _ _ e => e.elim
    obtain ⟨h₄, e3, e5, e6⟩ := zz
    subst e3; subst e5
    have p := c₃.privI i₀ fI
    have tk := p.tk e6
    obtain ⟨vs, cc, d1, d2⟩ := c₃.lD
    obtain ⟨mm, n1⟩ := c₃.lC
    have d1' := e6 _ _ (Ne.symm hID) d1
    have n1' : h₄.Ns C mm := n1.at' fun o e => e6 _ o (Ne.symm hIC) e
    exact hR ys H₃ _ hJ ⟨c₃.i.priv p e6, c₃.x.priv fI c₃.sI p.T e6, ⟨vs, cc, d1', d2.mono tk⟩, ⟨mm, n1'⟩, .of_fresh i₀ fC c₃.sC (ns_not_tup n1'), .of_fresh i₀ fD c₃.sD (isL_not_tup d1' rfl), fC, fD, hCD⟩
end

section
variable {prog : Program} {w : World} {B : Heap} {n : Nat} {env : Env} {V : Vars} {H : AH}

def compSrc (prog : Program) (w : World) (B : Heap) (n : Nat) (env : Env) (scope : Scope) (cl : List (Str × Addr)) (V' : Vars) (target elt : Expr) (ifs : List Expr) (K : List AV → AH → Prop) (src : Src) (H₁ : AH) : Prop :=
  ∃ l, src.items H₁ l ∧ l.length ≤ 1000000 ∧ ∃ J : Nat → List AV → AH → Prop, J 0 [] H₁ ∧ (∀ k ys H', J k ys H' → src.items H' l) ∧
    (∀ C k a ys H', l[k]? = some a → J k ys H' → turnJ prog w B n (compEnvC scope cl C env) V' H' target elt ifs a ys (J (k + 1))) ∧ (∀ ys H', J l.length ys H' → K ys H')

theorem comp_block {target elt iter : Expr} {ifs : List Expr} {scope : Scope} {pos : Pos} {cl : List (Str × Addr)} {A : Around} {s s₂ : Shared} {H₁ : AH} {I : Addr} {src : Src} {V' : Vars} {E : Value → Shared → Prop} {RR : Value → Addr → Result → Shared → Prop} {K : List AV → AH → Prop}
    (hcell : ∀ y ∈ scope.names, y.2 ≠ .cell) (hkind : scope.kind = .function)
    (r : Room A n) (i₀ : Inv B env V H s) (S : ∀ C, Sees env (compEnvC scope cl C env) V V') (i₂ : Inv B env V H₁ s₂) (x₂ : Ext H s H₁ s₂) (fI : s.heap.get? I = none) (hI : ItAt s₂.heap I 0 src) (hc : compSrc prog w B n env scope cl V' target elt ifs K src H₁)
    (hR : ∀ C D ys H' s', K ys H' → Left B env V H s C D ys H' s' → RR (.ref D) C (.ok .next) s') (hi : ifs.length ≤ 1) :
    wpAny (model prog w) A (newList []) (fun acc s₃ => wpAny (model prog w) A (newFunctionEnv scope env.globals cl [] env.qual none .none (some env)) (fun cenv s₄ =>
      codeAny (model prog w) A (.compStart (.ListComp elt [⟨target, iter, ifs, 0⟩] scope pos) 0 (.ref I) acc { cenv with scope := relabel scope env }) (RR acc cenv.locals) s₄) E s₃) E s₂ := by
  obtain ⟨l, hl, hz, J, h0, hit, step, hend⟩ := hc
  obtain ⟨ob, fs, g1, g2⟩ := hI.fields
  refine wpAny_newObj_type ?_
  have E3 : Ext H₁ s₂ H₁ { s₂ with heap := s₂.heap.push { cls := .type "list", data := .seq ([] : List Value).toArray } } := .grown (tk := s₂.toks) i₂.hi push_keeps
  have fD : s.heap.get? s₂.heap.objs.size = none := by
    cases e : s.heap.get? s₂.heap.objs.size with
    | none => rfl
    | some o => obtain ⟨o', q⟩ := x₂.stay _ o e; rw [size_fresh] at q; cases q
  generalize hh3 : s₂.heap.push { cls := .type "list", data := .seq ([] : List Value).toArray } = h₃ at E3
  have hD3 : IsL h₃ s₂.heap.objs.size (List.toArray []) 0 := by rw [← hh3]; exact Heap.get?_push_size _ rfl
  have hsz : h₃.objs.size = s₂.heap.objs.size + 1 := by rw [← hh3, Heap.size_push]
  have k3 : ∀ b o, s₂.heap.get? b = some o → h₃.get? b = some o := fun b o e => by rw [← hh3]; exact push_keeps b o e
  refine wpAny_newFunctionEnv hcell (by intro y hy; simp at hy) (fun h₄ hn hs => ?_) hkind
  have k4 : ∀ b o, h₃.get? b = some o → h₄.get? b = some o := fun b o e => hs.extBut b o (Nat.ne_of_lt (Heap.lt_size e)) (Heap.get?_push_of_some _ e)
  have k24 : ∀ b o, s₂.heap.get? b = some o → h₄.get? b = some o := fun b o e => k4 b o (k3 b o e)
  have fC2 : s₂.heap.get? h₃.objs.size = none := by
    cases e : s₂.heap.get? h₃.objs.size with
    | none => rfl
    | some o => have z := k3 _ _ e; rw [size_fresh] at z; cases z
  have fC : s.heap.get? h₃.objs.size = none := by
    cases e : s.heap.get? h₃.objs.size with
    | none => rfl
    | some o => obtain ⟨o', q⟩ := x₂.stay _ o e; rw [fC2] at q; cases q
  have E4 : Ext H₁ s₂ H₁ { s₂ with heap := h₄, toks := s₂.toks + ([] : List (Str × Value)).length } := .grown i₂.hi k24
  have hIlt := Heap.lt_size g1
  have hIC : I ≠ h₃.objs.size := by rw [hsz]; exact Nat.ne_of_lt (Nat.lt_succ_of_lt hIlt)
  have hID : I ≠ s₂.heap.objs.size := Nat.ne_of_lt hIlt
  have hCD : h₃.objs.size ≠ s₂.heap.objs.size := by rw [hsz]; exact Nat.succ_ne_self _
  have c₀ : Carry B env V H s I h₃.objs.size s₂.heap.objs.size src 0 [] H₁ { s₂ with heap := h₄, toks := s₂.toks + ([] : List (Str × Value)).length } :=
    ⟨E4.inv i₂, x₂.trans E4, hI.at fun o e => k24 _ o e, ⟨[], 0, k4 _ _ hD3, .nil⟩, ⟨_, hn⟩, fun e he q => by
        have := (i₂.hi.hr e he).notFields (q ▸ g1) g2; exact this, hi_fresh i₂.hi fC2, hi_fresh i₂.hi (size_fresh _)⟩
  have loop := comp_loop (elt := elt) (iter := iter) (pos := pos) (R := RR (.ref s₂.heap.objs.size) h₃.objs.size) J r i₀ (S h₃.objs.size) c₀ h0 hz hit (fun k a ys H' => step h₃.objs.size k a ys H') fI fC fD hIC hID hCD (fun ys H' s' hJ L => hR _ _ ys H' s' (hend ys H' hJ) L) hi
  refine codeAny_compStart_list loop ?_
  cases src with
  | lst p => exact wpAny_pyIter_listiter c₀.it loop
  | rng a m st => exact wpAny_pyIter_rangeiter c₀.it loop

theorem V_comp {target elt iter : Expr} {ifs : List Expr} {scope : Scope} {pos : Pos} {cl : List (Str × Addr)} {V' : Vars} {K : AV → AH → Prop}
    (hcell : ∀ y ∈ scope.names, y.2 ≠ .cell) (hkind : scope.kind = .function) (hnames : ∀ x ∈ scope.names, x.2 = .local → scope.names.lookup x.1 = some .local) (hclos : closureFor scope env = pure cl) (hs : ∀ x, foldedSetIterable iter env x = pure x)
    (S : ∀ C, Sees env (compEnvC scope cl C env) V V')
    (h : wpSrc prog w B n env V H iter (compSrc prog w B n env scope cl V' target elt ifs (fun ys H' => ∀ D, K (.ref D) ((D, .lst ys) :: H')))) (hi : ifs.length ≤ 1 := by decide) :
    wpV prog w B n env V H (eval (.ListComp elt [⟨target, iter, ifs, 0⟩] scope pos) env) K := fun A s r i => by
  rw [eval_ListComp]
  refine wpAny_comprehension_free (use := none) rfl hs hclos hkind hnames (wpAny_mono (h A s r i) (fun v s₁ zz => ?_) fun _ _ e => e)
  obtain ⟨src, H₁, hc, h2, h3⟩ := zz
  have i1 := h3.inv i
  have hl := hc
  obtain ⟨l, hl, _⟩ := hl
  refine wpAny_mono (iter_src i1.hi h2 hl) (fun it s₂ zz => ?_) fun _ _ e => e
  obtain ⟨I, h', e1, hI, e2, hk, hIt⟩ := zz
  subst e1; subst e2
  have fI : s.heap.get? I = none := by
    cases e : s.heap.get? I with
    | none => rfl
    | some o => obtain ⟨o', q⟩ := h3.stay I o e; rw [hI] at q; cases q
  refine comp_block (RR := fun acc C => compPost (model prog w) A (fun _ _ => False) none _ acc C) hcell hkind r i S (grown_inv (tk := s₁.toks) i1 hk) (h3.trans (.grown (tk := s₁.toks) i1.hi hk)) fI hIt hc (fun C D ys H' s' hK L => ?_) hi
  obtain ⟨m, hm⟩ := L.lC
  refine ⟨m, hm, fun h'' hs'' => ?_⟩
  have hk'' : ∀ b o, b ≠ C → s'.heap.get? b = some o → h''.get? b = some o := fun b o hb e => hs''.extBut b o hb e
  have x3 := L.x.priv (tk := s'.toks) L.fC L.pC.H L.pC.T hk''
  obtain ⟨vs, c, d1, d2⟩ := L.lD
  have hD'' : IsL h'' D (List.toArray vs) c := hk'' _ _ (Ne.symm L.ne) d1
  refine ⟨.ref D, (D, .lst ys) :: H', hK D, .ref D, x3.out, x3.keep, x3.stay, ?_, fun e he => ?_, fun e he => ?_⟩
  · rw [List.map_cons, List.nodup_cons]
    refine ⟨fun hmm => ?_, x3.nd⟩
    obtain ⟨e, he, q⟩ := List.mem_map.mp hmm
    exact L.pD.H e he q
  · rcases List.mem_cons.mp he with rfl | he
    · exact ⟨vs, c, hD'', d2.mono (L.pC.tk hk'')⟩
    · exact x3.hr e he
  · rcases List.mem_cons.mp he with rfl | he
    · exact .inr L.fD
    · exact x3.fresh e he

theorem S_assignComp {y : Str} {py : Pos} {target elt iter : Expr} {ifs : List Expr} {scope : Scope} {pos spos : Pos} {cl : List (Str × Addr)} {V' : Vars} {rest : List Stmt} {K : AF → Vars → AH → Prop} (P : Plain env) (hy : env.kindOf y = some .local)
    (hsw : swapsWith (.ListComp elt [⟨target, iter, ifs, 0⟩] scope pos) (some (.Name y py)) spos.line env = pure true)
    (hcell : ∀ y ∈ scope.names, y.2 ≠ .cell) (hkind : scope.kind = .function) (hnames : ∀ x ∈ scope.names, x.2 = .local → scope.names.lookup x.1 = some .local) (hclos : closureFor scope env = pure cl) (hs : ∀ x, foldedSetIterable iter env x = pure x)
    (S : ∀ C, Sees env (compEnvC scope cl C env) V V')
    (h : wpSrc prog w B n env V H iter (compSrc prog w B n env scope cl V' target elt ifs (fun ys H' => ∀ D, wpS prog w B n env ((y, .ref D) :: V) ((D, .lst ys) :: H') rest K))) (hi : ifs.length ≤ 1 := by decide) :
    wpS prog w B n env V H (.Assign [.Name y py] (.ListComp elt [⟨target, iter, ifs, 0⟩] scope pos) spos :: rest) K := S_cons fun A s r i => by
  rw [exec_Assign_Name_used _ _ _ _ hsw]
  refine wpAny_bind (wpAny_standAt (wpAny_bind ?_))
  show wpAny _ A (do let _ ← comprehension (.ListComp elt [⟨target, iter, ifs, 0⟩] scope pos) scope env _ (newList []) false (eval iter env) (some (assign (.Name y py) env))) _ _ s
  refine wpAny_bind (wpAny_mono (wpAny_comprehension_free (use := some (assign (.Name y py) env)) (Q := fun _ s' => postS B env H s (andThen prog w B n env rest K) .next s') rfl hs hclos hkind hnames (wpAny_mono (h A s r i) (fun v s₁ zz => ?_) fun _ _ e => e)) (fun _ s' hq => wpAny_pure (wpAny_pure hq)) fun _ _ e => e)
  obtain ⟨src, H₁, hc, h2, h3⟩ := zz
  have i1 := h3.inv i
  have hl := hc
  obtain ⟨l, hl, _⟩ := hl
  refine wpAny_mono (iter_src i1.hi h2 hl) (fun it s₂ zz => ?_) fun _ _ e => e
  obtain ⟨I, h', e1, hI, e2, hk, hIt⟩ := zz
  subst e1; subst e2
  have fI : s.heap.get? I = none := by
    cases e : s.heap.get? I with
    | none => rfl
    | some o => obtain ⟨o', q⟩ := h3.stay I o e; rw [hI] at q; cases q
  refine comp_block (RR := fun acc C => compPost (model prog w) A (fun _ _ => False) (some (assign (.Name y py) env)) _ acc C) hcell hkind r i S (grown_inv (tk := s₁.toks) i1 hk) (h3.trans (.grown (tk := s₁.toks) i1.hi hk)) fI hIt hc (fun C D ys H' s' hK L => ?_) hi
  show wpAny _ A (assign (.Name y py) env (.ref D)) _ _ _
  refine wpAny_assign_Name (wpAny_mono (store_local' L.i (VR.ref D) P hy) (fun _ s₃ zz => ?_) fun _ _ e => e)
  obtain ⟨i3, ⟨⟨h₃, tk₃, e3⟩, k3⟩, tk3⟩ := zz
  subst e3
  obtain ⟨m, hm⟩ := L.lC
  obtain ⟨vs, c, d1, d2⟩ := L.lD
  have hm3 : h₃.Ns C m := hm.at' fun o e => k3 _ o (Ne.symm L.pC.L) e
  have d1' : IsL h₃ D (List.toArray vs) c := k3 _ _ (Ne.symm L.pD.L) d1
  refine ⟨m, hm3, fun h'' hs'' => ?_⟩
  have hk'' : ∀ b o, b ≠ C → h₃.get? b = some o → h''.get? b = some o := fun b o hb e => hs''.extBut b o hb e
  have pC3 : Priv B env H' h₃ C := .of_fresh i L.fC L.pC.H (ns_not_tup hm3)
  have i4 : Inv B env ((y, .ref D) :: V) H' { s' with heap := h'', toks := tk₃ } := i3.priv pC3 hk''
  have hD'' : IsL h'' D (List.toArray vs) c := hk'' _ _ (Ne.symm L.ne) d1'
  have tk4 : TupKeep s'.heap h'' := tk3.trans (pC3.tk hk'')
  obtain ⟨hx, tx, ex⟩ := L.x.out
  have nd : (((D, AO.lst ys) :: H').map (·.1)).Nodup := by
    rw [List.map_cons, List.nodup_cons]
    exact ⟨fun hmm => let ⟨e, he, q⟩ := List.mem_map.mp hmm; L.pD.H e he q, i4.hi.nd⟩
  refine ⟨.next, (y, .ref D) :: V, (D, .lst ys) :: H', hK D, .next, ⟨⟨i4.hi.keep, nd, fun e he => ?_, fun e he => ?_⟩, ⟨i4.ei.loc, i4.ei.cel, fun e he => ?_, i4.ei.lB, i4.ei.cB, i4.ei.ci⟩⟩, ⟨?_, fun b o e q1 q2 q3 => ?_, fun b o e => ?_, fun e he => ?_⟩⟩
  · rcases List.mem_cons.mp he with rfl | he
    · exact ⟨vs, c, hD'', d2.mono tk4⟩
    · exact i4.hi.hr e he
  · rcases List.mem_cons.mp he with rfl | he
    · exact L.pD.B
    · exact i4.hi.hb e he
  · rcases List.mem_cons.mp he with rfl | he
    · exact Ne.symm L.pD.L
    · exact i4.ei.lH e he
  · rw [ex]; exact ⟨_, _, rfl⟩
  · exact hk'' b o (fun q => by rw [q, L.fC] at e; cases e) (k3 b o q2 (L.x.keep b o e q1))
  · obtain ⟨o', e'⟩ := L.x.stay b o e
    by_cases q : b = env.locals
    · subst q
      obtain ⟨m', ⟨o'', _, _, ho, _⟩, _⟩ := i4.ei.loc
      exact ⟨o'', ho⟩
    · exact ⟨o', hk'' b o' (fun q => by rw [q, L.fC] at e; cases e) (k3 b o' q e')⟩
  · rcases List.mem_cons.mp he with rfl | he
    · exact .inr L.fD
    · exact L.x.fresh e he
end

theorem bindL_out {kd : Str → Option NameKind} {x : Str} : ∀ {names : List Str} {vs : List Value} {m : Str → Option Value}, x ∉ names → bindL kd (names.zip vs) m x = m x
  | [], _, _, _ => by simp [bindL]
  | n :: r, [], _, _ => by simp [bindL]
  | n :: r, v :: vs, m, h => by
    rw [List.zip_cons_cons, bindL, bindL_out (fun q => h (.tail _ q))]
    split
    · exact if_neg (fun q : x = n => h (q ▸ .head _))
    · rfl
theorem bindC_out {kd : Str → Option NameKind} {x : Str} : ∀ {names : List Str} {vs : List Value} {m : Str → Option Value}, x ∉ names → bindC kd (names.zip vs) m x = m x
  | [], _, _, _ => by simp [bindC]
  | n :: r, [], _, _ => by simp [bindC]
  | n :: r, v :: vs, m, h => by
    rw [List.zip_cons_cons, bindC, bindC_out (fun q => h (.tail _ q))]
    split
    · rfl
    · exact if_neg (fun q : x = n => h (q ▸ .head _))
theorem bindL_in {h : Heap} {kd : Str → Option NameKind} {x : Str} {a : AV} (hk : kd x = some .local) : ∀ {names : List Str} {vs : List Value} {l : List AV} {m : Str → Option Value}, names.Nodup → VRs h vs l → (names.zip l).lookup x = some a → ∃ u, bindL kd (names.zip vs) m x = some u ∧ VR h u a
  | [], _, _, _, _, _, e => by simp at e
  | n :: r, _, _, _, _, .nil, e => by simp at e
  | n :: r, _, _, m, nd, .cons (v := v) (a := b) h1 h2, e => by
    rw [List.zip_cons_cons, List.lookup_cons] at e
    rw [List.zip_cons_cons, bindL]
    rw [List.nodup_cons] at nd
    split at e
    · rename_i q
      obtain rfl := beq_str q
      cases e
      rw [bindL_out nd.1, if_pos hk]
      exact ⟨v, if_pos rfl, h1⟩
    · exact bindL_in hk nd.2 h2 e
theorem bindC_in {h : Heap} {kd : Str → Option NameKind} {x : Str} {a : AV} (hk : kd x ≠ some .local) : ∀ {names : List Str} {vs : List Value} {l : List AV} {m : Str → Option Value}, names.Nodup → VRs h vs l → (names.zip l).lookup x = some a → ∃ u, bindC kd (names.zip vs) m x = some u ∧ VR h u a
  | [], _, _, _, _, _, e => by simp at e
  | n :: r, _, _, _, _, .nil, e => by simp at e
  | n :: r, _, _, m, nd, .cons (v := v) (a := b) h1 h2, e => by
    rw [List.zip_cons_cons, List.lookup_cons] at e
    rw [List.zip_cons_cons, bindC]
    rw [List.nodup_cons] at nd
    split at e
    · rename_i q
      obtain rfl := beq_str q
      cases e
      rw [bindC_out nd.1, if_neg hk]
      exact ⟨v, if_pos rfl, h1⟩
    · exact bindC_in hk nd.2 h2 e

def funK (K : AV → AH → Prop) (f : AF) (V : Vars) (H : AH) : Prop :=
  match f with
  | .ret a => K a H
  | _ => K .none H

section
variable {prog : Program} {w : World} {B : Heap} {n : Nat} {H : AH} {K : AV → AH → Prop} {mg mb : Str → Option Value}

theorem plain_C (qual : Str) (scope : Scope) (L f : Addr) (cdv : Value) (hk : scope.kind = .function) : Plain (envOfC qual scope L f cdv) := ⟨hk, rfl, rfl⟩

theorem callFun {f : Addr} {fo : Obj} {name qual : Str} {params : Arguments} {body : List Stmt} {scope : Scope} {dV kV doc pm cdv ct : Value} {an : Option Addr} {names : List Str} {l : List AV}
    (G : Gl B mg mb) (ho : B.get? f = some fo) (hd : fo.data = .func (PySem.W.fnX name qual params body scope [] dV kV doc pm an cdv ct)) (hcd : B.CodeRec cdv qual)
    (hco : scope.isCoroutine = false) (hgen : scope.isGenerator = false) (hk : scope.kind = .function) (hnd : names.Nodup) (hlen : l.length = names.length)
    (hbind : ∀ s vs, vs.length = names.length → BindsTo s (PySem.W.fnX name qual params body scope [] dV kV doc pm an cdv ct) ⟨vs, []⟩ (names.zip vs))
    (hkind : ∀ m, ∀ x ∈ names, scope.names.lookup x = some .local ∨ (scope.names.lookup x = some .cell ∧ ((cellsFrom m scope.names []).lookup x).isSome = true))
    (h : ∀ L, wpS prog w B n (envOfC qual scope L f cdv) (names.zip l) H body (funK K)) :
    opV prog w B (n + 1) l H (fun vs => call (.ref f) vs) K := fun A s vs r hi hv => by
  have ev := hv.length
  refine wpAny_call (codeAny_call_function (Room.limit r) (hi.keep _ _ ho) hd hco hgen rfl (hcd.keeps hi.keep) (hbind s vs (ev.trans hlen) _ _ _ _ ?_))
  refine wpAny_newFunctionEnv_cells hk (fun x hx => ?_) fun env he s' x => ?_
  · exact hkind _ x.1 (by
      obtain ⟨x1, x2⟩ := x
      exact (List.of_mem_zip hx).1)
  have he' : env = envOfC qual scope s.heap.objs.size f cdv := he
  subst he'
  obtain ⟨h₁, tk, e1, hk1⟩ := x.done
  subst e1
  refine ⟨G.nl.keeps fun b o e => hk1 b o (hi.keep b o e), codeAny_func ?_⟩
  have tkp := tk_of_keep hk1
  have fr : ∀ X : Addr, s.heap.objs.size ≤ X → s.heap.get? X = none := fun X hX => by
    cases e : s.heap.get? X with
    | none => rfl
    | some o => exact absurd (Heap.lt_size e) (Nat.not_lt.mpr hX)
  have frB : ∀ X : Addr, s.heap.objs.size ≤ X → B.get? X = none := fun X hX => by
    cases e : B.get? X with
    | none => rfl
    | some o => have := hi.keep X o e; rw [fr X hX] at this; cases this
  have frc : ∀ z c, (envOfC qual scope s.heap.objs.size f cdv).cells.lookup z = some c → s.heap.objs.size ≤ c := fun z c e => Nat.le_of_lt (x.above z c (mem_of_lookup e))
  have E1 : Ext H s H { s with heap := h₁, toks := tk } := .grown hi hk1
  have i1 : Inv B (envOfC qual scope s.heap.objs.size f cdv) (names.zip l) H { s with heap := h₁, toks := tk } := by
    refine ⟨E1.hi hi, ⟨⟨_, x.toInCall.ns, fun z a e k => ?_⟩, fun z c e => ?_, hi_fresh hi (size_fresh _), frB _ (Nat.le_refl _), fun z c e => frB c (frc z c e), fun z y c e e' => name_of_addr x.apart (mem_of_lookup e) (mem_of_lookup e')⟩⟩
    · obtain ⟨u, h1, h2⟩ := bindL_in (m := fun _ => Option.none) k hnd hv e
      exact ⟨u, h1, h2.mono tkp⟩
    · obtain ⟨ob, h1, h2⟩ := x.cell z c e
      refine ⟨ob, _, h1, h2, fun a ha k => ?_⟩
      obtain ⟨u, h1, h2⟩ := bindC_in (m := fun _ => Option.none) k hnd hv ha
      exact ⟨u, h1, h2.mono tkp⟩
  refine wpAny_mono (h s.heap.objs.size (A.deeper (envOfC qual scope s.heap.objs.size f cdv)) _ (r.deeper _) i1) (fun fl s₂ zz => ?_) fun _ _ e => e.elim
  obtain ⟨af, V', H', h1, h2, h3, h4⟩ := zz
  have x2 : Ext H s H' s₂ := by
    obtain ⟨hh, tt, e2⟩ := h4.out
    subst e2
    refine ⟨⟨_, _, rfl⟩, fun b o e k => h4.keep b o (hk1 b o e) k (fun q => by have hl := Heap.lt_size e; rw [q] at hl; exact absurd hl (Nat.lt_irrefl _)) fun z c hz q => by
      have hl := Heap.lt_size e; rw [← q] at hl; exact absurd (frc z c hz) (Nat.not_le.mpr hl), fun b o e => h4.stay b o (hk1 b o e), h3.hi.nd, h3.hi.hr, fun e he => ?_⟩
    rcases h4.fresh e he with q | q
    · exact .inl q
    · refine .inr ?_
      cases e2 : s.heap.get? e.1 with
      | none => rfl
      | some o => have := hk1 _ _ e2; rw [q] at this; cases this
  cases h2 with
  | next => exact ⟨.none, H', h1, .none, x2⟩
  | brk => exact ⟨.none, H', h1, .none, x2⟩
  | cont => exact ⟨.none, H', h1, .none, x2⟩
  | ret v => exact ⟨_, H', h1, v, x2⟩
end

section
variable {prog : Program} {w : World} {B : Heap} {n : Nat} {env : Env} {V : Vars} {H : AH}

/-! stores into places -/
def setP (prog : Program) (w : World) (B : Heap) (n : Nat) (b c a : AV) (H : AH) (K : AH → Prop) : Prop :=
  ∀ A s vb vc va, Room A n → HI B H s.heap → VR s.heap vb b → VR s.heap vc c → VR s.heap va a → wpAny (model prog w) A (setItem vb vc va) (fun _ s' => ∃ H', K H' ∧ Ext H s H' s') (fun _ _ => False) s

theorem S_set {o i : Expr} {p' pos : Pos} {value : Expr} {rest : List Stmt} {K : AF → Vars → AH → Prop} (hs : swapsWith value (some (.Subscript o i p')) pos.line env = pure false)
    (h : wpV prog w B n env V H (eval value env) (fun a H₁ => wpV prog w B n env V H₁ (eval o env) (fun b H₂ => wpV prog w B n env V H₂ (eval i env) (fun c H₃ => setP prog w B n b c a H₃ (fun H₄ => wpS prog w B n env V H₄ rest K))))) :
    wpS prog w B n env V H (.Assign [.Subscript o i p'] value pos :: rest) K := S_cons fun A s r x => by
  refine wpAny_Assign_Subscript (wpAny_mono (h A s r x) (fun va s₁ zz => ?_) fun _ _ e => e.elim) hs
  obtain ⟨a, H₁, h1, h2, h3⟩ := zz
  refine wpAny_mono (h1 A s₁ r (h3.inv x)) (fun vb s₂ zz => ?_) fun _ _ e => e.elim
  obtain ⟨b, H₂, k1, k2, k3⟩ := zz
  have E2 := h3.trans k3
  refine wpAny_mono (k1 A s₂ r (E2.inv x)) (fun vc s₃ zz => ?_) fun _ _ e => e.elim
  obtain ⟨c, H₃, m1, m2, m3⟩ := zz
  have E3 := E2.trans m3
  have t3 := m3.tk (E2.hi x.hi)
  refine wpAny_mono (m1 A s₃ vb vc va r (E3.hi x.hi) (k2.mono t3) m2 ((h2.mono (k3.tk (h3.hi x.hi))).mono t3)) (fun _ s₄ zz => ?_) fun _ _ e => e.elim
  obtain ⟨H₄, q1, q2⟩ := zz
  exact ⟨.next, V, H₄, q1, .next, (E3.trans q2).inv x, (E3.trans q2).toS⟩

theorem T_list {p : Addr} {o : AO} {l : List AV} {a : AV} {k : Int} {j : Nat} {H' : AH} {K : AH → Prop} (u : Upd p o (.arr (l.set j a)) H H') (ho : o = .lst l ∨ o = .arr l) (h0 : k = (j : Int)) (hj : j < l.length) (hz : j < 1000000) (h : K H') : setP prog w B n (.ref p) (.int k) a H K := fun A s vb vc va r hi hb hc ha => by
  subst h0
  obtain rfl := hb.toRef; obtain ⟨t, rfl⟩ := hc.toInt
  have hp : Has H p l := by
    rcases ho with rfl | rfl
    · exact .inl u.mem
    · exact .inr u.mem
  obtain ⟨vs, hl, q⟩ := hi.list hp
  have e := q.length
  refine wpAny_setItem_list hl (by omega) (by omega) (by rw [List.size_toArray]; omega) fun h' h1 h2 => ?_
  have hk : ∀ b ob, b ≠ p → s.heap.get? b = some ob → h'.get? b = some ob := fun b ob hb e => h2.extBut b ob hb e
  have tkp : TupKeep s.heap h' := fun b us c y => hk b _ (fun q => by subst q; exact (hi.hr _ u.mem).notTup y) y
  refine ⟨H', h, .upd (tk := s.toks) hi u hk ⟨vs.set j va, ?_, (q.mono tkp).set j (ha.mono tkp)⟩⟩
  rw [Int.toNat_natCast, Array.setIfInBounds] at h1
  rw [dif_pos (by rw [List.size_toArray]; omega)] at h1
  simpa using h1

theorem T_dic {p : Addr} {f : Int → Option AV} {m : Nat} {a : AV} {k : Int} {H' : AH} {K : AH → Prop} (u : Upd p (.dic f m) (.dic (fun x => if x = k then some a else f x) (m + 1)) H H') (hm : m ≤ 1000000) (h : K H') : setP prog w B n (.ref p) (.int k) a H K := fun A s vb vc va r hi hb hc ha => by
  obtain rfl := hb.toRef; obtain ⟨t, rfl⟩ := hc.toInt
  obtain ⟨g, g1, g2, g3⟩ := hi.dic u.mem
  refine wpAny_setItem_intMap_le g1 g2 (by rw [sizeLine_eq]; omega) fun h' h1 h2 h3 => ?_
  have hk : ∀ b ob, b ≠ p → s.heap.get? b = some ob → h'.get? b = some ob := fun b ob hb e => h3.extBut b ob hb e
  have tkp : TupKeep s.heap h' := fun b us c y => hk b _ (fun q => by subst q; exact (hi.hr _ u.mem).notTup y) y
  refine ⟨H', h, .upd hi u hk ⟨_, h1, h2, fun x => ?_⟩⟩
  by_cases e : x = k
  · simp only [if_pos e]; exact ⟨va, rfl, ha.mono tkp⟩
  · simp only [if_neg e]
    have z := g3 x
    cases hf : f x with
    | none => rw [hf] at z; exact z
    | some y => rw [hf] at z; obtain ⟨v, z1, z2⟩ := z; exact ⟨v, z1, z2.mono tkp⟩

/-! append, extend -/
theorem mapSeq_isL {h : Heap} {p : Addr} {vs : Array Value} {c : Nat} (x : IsL h p vs c) (f : Array Value → Array Value) : ∃ c', IsL (h.update p (Obj.mapSeq f)) p (f vs) c' :=
  ⟨_, Heap.get?_update_self _ x rfl⟩
theorem V_append {o e : Expr} {apos pos : Pos} {K : AV → AH → Prop} (ha : attributeBase o (Str.ofString "append") env (eval o env) = eval o env)
    (hg : (((backTo pos (starEach [e] env)).all fun x => !x.1) && (backToKw pos (keywordEach [] env)).all fun x => x.1.isSome) && decide (([e].length + ([] : List Keyword).length + if ([] : List Keyword).isEmpty = true then 0 else 1) < 30) = true)
    (hl : (apos.endLine == pos.line) = true) (hb : backTo pos (starEach [e] env) = [(false, eval e env)])
    (h : wpV prog w B n env V H (eval o env) (fun b H₁ => ∃ p l₀, b = .ref p ∧ (p, .lst l₀) ∈ H₁ ∧ wpV prog w B n env V H₁ (eval e env) (fun a H₂ => ∃ l H₃, Upd p (.lst l) (.lst (l ++ [a])) H₂ H₃ ∧ l.length ≤ 1000000 ∧ K .none H₃))) :
    wpV prog w B n env V H (eval (.Call (.Attribute o (Str.ofString "append") apos) [e] [] pos) env) K := fun A s r x => by
  refine wpAny_Call_method (T := "list") (id := "list.append") ha hg hl F.plainAttrs_list F.slot_list_append F.type_list_append (wpAny_mono (h A s r x) (fun vb s₁ zz => ?_) fun _ _ e => e)
  obtain ⟨b, H₁, ⟨p, l₀, e1, e2, h1⟩, h2, h3⟩ := zz
  subst e1; obtain rfl := h2.toRef
  have i1 := h3.inv x
  obtain ⟨us, c, g1, g2⟩ := i1.hi.hr _ e2
  refine ⟨⟨_, g1, rfl⟩, fun a ea => ⟨_, by cases ea; exact g1, rfl⟩, ?_⟩
  rw [hb]
  refine P.append_list (wpAny_mono (h1 A s₁ r i1) (fun va s₂ zz => ?_) fun _ _ e => e)
  obtain ⟨a, H₂, ⟨l, H₃, u, hz, k1⟩, k2, k3⟩ := zz
  have hi := k3.hi i1.hi
  obtain ⟨vs, c, d1, d2⟩ := hi.hr _ u.mem
  have e9 := d2.length
  refine ⟨vs.toArray, c, by rw [List.size_toArray, sizeLine_eq]; omega, d1, ?_⟩
  obtain ⟨c', d3⟩ := mapSeq_isL d1 (fun xs => xs.push va)
  have hk : ∀ b ob, b ≠ p → s₂.heap.get? b = some ob → (s₂.heap.update p (Obj.mapSeq fun xs => xs.push va)).get? b = some ob := fun b ob hb e => (Heap.SameBut.update _ _ _).extBut b ob hb e
  have tkp : TupKeep s₂.heap (s₂.heap.update p (Obj.mapSeq fun xs => xs.push va)) := fun b us c y => hk b _ (fun q => by subst q; exact (hi.hr _ u.mem).notTup y) y
  refine ⟨.none, H₃, k1, .none, (h3.trans k3).trans (.upd (tk := s₂.toks) hi u hk ⟨vs ++ [va], c', ?_, (d2.snoc k2).mono tkp⟩)⟩
  rw [← List.push_toArray]; exact d3
theorem V_extend {o e : Expr} {apos pos : Pos} {K : AV → AH → Prop} (ha : attributeBase o (Str.ofString "extend") env (eval o env) = eval o env)
    (hg : (((backTo pos (starEach [e] env)).all fun x => !x.1) && (backToKw pos (keywordEach [] env)).all fun x => x.1.isSome) && decide (([e].length + ([] : List Keyword).length + if ([] : List Keyword).isEmpty = true then 0 else 1) < 30) = true)
    (hl : (apos.endLine == pos.line) = true) (hb : backTo pos (starEach [e] env) = [(false, eval e env)])
    (h : wpV prog w B n env V H (eval o env) (fun b H₁ => ∃ p l₀, b = .ref p ∧ (p, .lst l₀) ∈ H₁ ∧ wpV prog w B n env V H₁ (eval e env) (fun a H₂ => ∃ q k l H₃, a = .ref q ∧ (q, .lst k) ∈ H₂ ∧ Upd p (.lst l) (.lst (l ++ k)) H₂ H₃ ∧ l.length + k.length ≤ 1000000 ∧ K .none H₃))) :
    wpV prog w B n env V H (eval (.Call (.Attribute o (Str.ofString "extend") apos) [e] [] pos) env) K := fun A s r x => by
  refine wpAny_Call_method (T := "list") (id := "list.extend") ha hg hl F.plainAttrs_list F.slot_list_extend F.type_list_extend (wpAny_mono (h A s r x) (fun vb s₁ zz => ?_) fun _ _ e => e)
  obtain ⟨b, H₁, ⟨p, l₀, e1, e2, h1⟩, h2, h3⟩ := zz
  subst e1; obtain rfl := h2.toRef
  have i1 := h3.inv x
  obtain ⟨us, c, g1, g2⟩ := i1.hi.hr _ e2
  refine ⟨⟨_, g1, rfl⟩, fun a ea => ⟨_, by cases ea; exact g1, rfl⟩, ?_⟩
  rw [hb]
  refine P.extend_list (wpAny_mono (h1 A s₁ r i1) (fun va s₂ zz => ?_) fun _ _ e => e)
  obtain ⟨a, H₂, ⟨q, k, l, H₃, e3, e4, u, hz, k1⟩, k2, k3⟩ := zz
  subst e3; obtain rfl := k2.toRef
  have hi := k3.hi i1.hi
  obtain ⟨vs, c, d1, d2⟩ := hi.hr _ u.mem
  obtain ⟨ws, c2, f1, f2⟩ := hi.hr _ e4
  have e9 := d2.length
  have e8 := f2.length
  refine ⟨q, vs.toArray, ws.toArray, c, c2, by rw [List.size_toArray, sizeLine_eq]; omega, by rw [List.size_toArray, List.size_toArray, sizeLine_eq]; omega, ?_, rfl, d1, f1, ?_⟩
  · rw [List.size_toArray, List.size_toArray]
    simp only [Builtin.List.listTooLong, sizeLine_eq, Bool.and_eq_true, decide_eq_true_eq, not_and]
    omega
  obtain ⟨c', d3⟩ := mapSeq_isL d1 (fun xs => xs ++ ws.toArray)
  have hk : ∀ b ob, b ≠ p → s₂.heap.get? b = some ob → (s₂.heap.update p (Obj.mapSeq fun xs => xs ++ ws.toArray)).get? b = some ob := fun b ob hb e => (Heap.SameBut.update _ _ _).extBut b ob hb e
  have tkp : TupKeep s₂.heap (s₂.heap.update p (Obj.mapSeq fun xs => xs ++ ws.toArray)) := fun b us c y => hk b _ (fun q => by subst q; exact (hi.hr _ u.mem).notTup y) y
  refine ⟨.none, H₃, k1, .none, (h3.trans k3).trans (.upd (tk := s₂.toks) hi u hk ⟨vs ++ ws, c', ?_, (d2.append f2).mono tkp⟩)⟩
  rw [← List.append_toArray]; exact d3

/-! two names at once -/
theorem S_two {x y : Str} {p q tp pos : Pos} {k : Nat} {value : Expr} {rest : List Stmt} {K : AF → Vars → AH → Prop} (P : Plain env) (hx : Storable env x) (hy : Storable env y)
    (hs : swapsWithSole [.Tuple [.Name x p, .Name y q] k tp] value pos.line env = pure false) (hw : swappedStores [.Tuple [.Name x p, .Name y q] k tp] value env = pure none)
    (h : wpV prog w B n env V H (eval value env) (fun c H₁ => ∃ a b, c = .tup [a, b] ∧ wpS prog w B n env ((y, b) :: (x, a) :: V) H₁ rest K)) : wpS prog w B n env V H (.Assign [.Tuple [.Name x p, .Name y q] k tp] value pos :: rest) K := S_cons fun A s r i => by
  refine Assign_Tuple (wpAny_mono (h A s r i) (fun v s₁ zz => ?_) fun _ _ e => e.elim) hs hw
  obtain ⟨c, H₁, ⟨a, b, e, h1⟩, h2, h3⟩ := zz
  subst e
  exact wpAny_mono (assign_tgt r.hd (.two hx hy) (h3.inv i) h2 P) (fun _ s₂ ⟨k1, k2⟩ => ⟨.next, _, _, h1, .next, k1, h3.toS.trans (h3.inv i).ei k2⟩) fun _ _ e => e
theorem S_twoX {x y : Str} {p q tp pos : Pos} {k : Nat} {value : Expr} {rest : List Stmt} {K : AF → Vars → AH → Prop} (P : Plain env) (hx : Storable env x) (hy : Storable env y)
    (hs : swapsWithSole [.Tuple [.Name x p, .Name y q] k tp] value pos.line env = pure false) (hw : swappedStores [.Tuple [.Name x p, .Name y q] k tp] value env = pure (some [x, y]))
    (h : wpV prog w B n env V H (eval value env) (fun c H₁ => ∃ a b, c = .tup [a, b] ∧ wpS prog w B n env ((x, a) :: (y, b) :: V) H₁ rest K)) : wpS prog w B n env V H (.Assign [.Tuple [.Name x p, .Name y q] k tp] value pos :: rest) K := S_cons fun A s r i => by
  refine Assign_Tuple_swapped (names := [x, y]) (wpAny_mono (h A s r i) (fun v s₁ zz => ?_) fun _ _ e => e.elim) hs hw
  obtain ⟨c, H₁, ⟨a, b, e, h1⟩, h2, h3⟩ := zz
  subst e
  cases h2 with
  | tup t1 t2 =>
    obtain ⟨u, v, rfl, q1, q2⟩ := t2.two
    show wpAny _ A (unpackItems (.ref _) ([u, v].toArray).size none) _ _ _
    refine unpackItems_tuple r.hd ⟨_, t1, rfl, _, rfl⟩ fun h' he => ?_
    have i1 := h3.inv i
    have hk := extBut_keep he
    have i' := grown_inv (tk := s₁.toks) i1 hk
    have E := (Ext.grown (tk := s₁.toks) i1.hi hk).toS (env := env)
    show wpAny _ A (assignInOrder [bindName env y, bindName env x] [v, u]) _ _ _
    refine assignInOrder_cons (wpAny_bindName (wpAny_mono (store_two i' (q2.mono (tk_of_keep hk)) (q1.mono (tk_of_keep hk)) P hy hx) (fun _ s₂ h₂ => ?_) fun _ _ e => e))
    refine assignInOrder_cons (wpAny_bindName (wpAny_mono h₂ (fun _ s₃ h₃ => assignInOrder_nil ?_) fun _ _ e => e))
    exact ⟨.next, _, _, h1, .next, h₃.1, h3.toS.trans i1.ei (E.trans i'.ei h₃.2.1)⟩
end

abbrev Vars.at_ (V : Vars) (x : Str) (a : AV) : Prop := V.lookup x = some a
theorem Has.tl {e : Addr × AO} {H : AH} {p : Addr} {l : List AV} (h : Has H p l) : Has (e :: H) p l := h.imp (.tail _) (.tail _)
def Hid (p : Prop) : Prop := p
theorem nn_ {P : Prop} (h : P) : AV.none = AV.none ∧ P := ⟨rfl, h⟩
theorem tt_ {P Q : Prop} (h : P) : (true = true → P) ∧ (true = false → Q) := ⟨fun _ => h, fun e => absurd e (by decide)⟩
theorem ff_ {P Q : Prop} (h : Q) : (false = true → P) ∧ (false = false → Q) := ⟨fun e => absurd e (by decide), fun _ => h⟩
theorem tf_ {P Q : Prop} (h : P) : (true = false → Q) ∧ (true = true → P) := ⟨fun e => absurd e (by decide), fun _ => h⟩
theorem ft_ {P Q : Prop} (h : Q) : (false = false → Q) ∧ (false = true → P) := ⟨fun _ => h, fun e => absurd e (by decide)⟩
theorem dcf_ {p : Prop} [Decidable p] {P Q : Prop} (h : ¬ p → P) (k : p → Q) : (decide p = false → P) ∧ (decide p = true → Q) := ⟨fun e => h (of_decide_eq_false e), fun e => k (of_decide_eq_true e)⟩
theorem dc_ {p : Prop} [Decidable p] {P Q : Prop} (h : p → P) (k : ¬ p → Q) : (decide p = true → P) ∧ (decide p = false → Q) := ⟨fun e => h (of_decide_eq_true e), fun e => k (of_decide_eq_false e)⟩
/-! the defs of the text, by their places -/
noncomputable def defAt (i : Nat) : Stmt := (PySem.Challenge.pw_og0128_01.main.body[i]?).getD (.Pass ⟨0, 0, 0, 0⟩)
noncomputable def bodyOf : Stmt → List Stmt
  | .FunctionDef _ _ b _ _ _ _ _ _ _ => b
  | _ => []
noncomputable def scopeOf : Stmt → Scope
  | .FunctionDef _ _ _ _ _ _ s _ _ _ => s
  | _ => { kind := .module, names := [], isGenerator := false, isCoroutine := false }
noncomputable def paramsOf : Stmt → Arguments
  | .FunctionDef _ a _ _ _ _ _ _ _ _ => a
  | _ => { posonlyargs := [], args := [], vararg := none, kwonlyargs := [], kw_defaults := [], kwarg := none, defaults := [] }
noncomputable def nameOfD : Stmt → Str
  | .FunctionDef n _ _ _ _ _ _ _ _ _ => n
  | _ => Str.empty

structure Fn (B : Heap) (mg : Str → Option Value) (i : Nat) (a : Addr) : Prop where
  mg : mg (nameOfD (defAt i)) = some (.ref a)
  ho : ∃ fo doc pm cdv ct an, B.get? a = some fo ∧ fo.data = .func (PySem.W.fnX (nameOfD (defAt i)) (nameOfD (defAt i)) (paramsOf (defAt i)) (bodyOf (defAt i)) (scopeOf (defAt i)) [] .none .none doc pm an cdv ct) ∧ B.CodeRec cdv (nameOfD (defAt i))

structure Wd (B : Heap) (mg mb : Str → Option Value) : Prop where
  G : Gl B mg mb
  nb : ∀ x ∈ (["range", "len", "max", "min", "list", "abs", "int"] : List String), mg (Str.ofString x) = none
  mc : ∃ t, mg (Str.ofString "MOST_CELLS") = some (.int 1600 t)

noncomputable def senv (i : Nat) (L f : Addr) (cdv : Value) : Env := envOfC (nameOfD (defAt i)) (scopeOf (defAt i)) L f cdv

def AllL {α : Type} (P : α → Prop) : List α → Prop
  | [] => True
  | a :: l => P a ∧ AllL P l
theorem AllL.mem {α : Type} {P : α → Prop} : ∀ {l : List α}, AllL P l → ∀ x ∈ l, P x
  | a :: l, h, x, hx => by
    rcases List.mem_cons.mp hx with e | hx
    · exact e ▸ h.1
    · exact h.2.mem x hx
def AllN : List Str → (List Value → Prop) → Prop
  | [], P => P []
  | _ :: ns, P => ∀ a, AllN ns fun l => P (a :: l)
theorem AllN.all : ∀ {ns : List Str} {P : List Value → Prop}, AllN ns P → ∀ vs, vs.length = ns.length → P vs
  | [], _, h, [], _ => h
  | _ :: _, _, h, a :: l, e => (h a).all l (Nat.succ.inj e)
section
variable {prog : Program} {w : World} {B : Heap} {n : Nat} {env : Env} {V : Vars} {H : AH} {mg mb : Str → Option Value}

theorem wpS.body {ss ss' : List Stmt} {K : AF → Vars → AH → Prop} (e : ss = ss') (h : wpS prog w B n env V H ss' K) : wpS prog w B n env V H ss K := e ▸ h

theorem enter {i : Nat} {f : Addr} {names : List Str} {l : List AV} {K : AV → AH → Prop} (W : Wd B mg mb) (F : Fn B mg i f) (hg : (scopeOf (defAt i)).isCoroutine = false ∧ (scopeOf (defAt i)).isGenerator = false ∧ (scopeOf (defAt i)).kind = .function)
    (hnd : names.Nodup) (hlen : l.length = names.length)
    (hbind : ∀ s doc pm cdv ct an, AllN names fun vs => BindsTo s (PySem.W.fnX (nameOfD (defAt i)) (nameOfD (defAt i)) (paramsOf (defAt i)) (bodyOf (defAt i)) (scopeOf (defAt i)) [] .none .none doc pm an cdv ct) ⟨vs, []⟩ (names.zip vs))
    (hkind : ∀ m, AllL (fun x => (scopeOf (defAt i)).names.lookup x = some .local ∨ ((scopeOf (defAt i)).names.lookup x = some .cell ∧ ((cellsFrom m (scopeOf (defAt i)).names []).lookup x).isSome = true)) names)
    (h : ∀ L cdv, Plain (senv i L f cdv) → wpS prog w B n (senv i L f cdv) (names.zip l) H (bodyOf (defAt i)) (funK K)) :
    opV prog w B (n + 1) l H (fun vs => call (.ref f) vs) K := by
  obtain ⟨fo, doc, pm, cdv, ct, an, h1, h2, h3⟩ := F.ho
  exact callFun W.G h1 h2 h3 hg.1 hg.2.1 hg.2.2 hnd hlen (fun s vs => (hbind s doc pm cdv ct an).all vs) (fun m => (hkind m).mem) fun L => h L cdv ⟨hg.2.2, rfl, rfl⟩

theorem S_nd {ss : List Stmt} {K : AF → Vars → AH → Prop} (h : (H.map (·.1)).Nodup → wpS prog w B n env V H ss K) : wpS prog w B n env V H ss K := fun A s r i => h i.hi.nd A s r i
theorem O_nd {l : List AV} {t : List Value → Sem Value} {K : AV → AH → Prop} (h : (H.map (·.1)).Nodup → opV prog w B n l H t K) : opV prog w B n l H t K := fun A s vs r i v => h i.nd A s vs r i v
theorem V_nd {t : Sem Value} {K : AV → AH → Prop} (h : (H.map (·.1)).Nodup → wpV prog w B n env V H t K) : wpV prog w B n env V H t K := fun A s r i => h i.hi.nd A s r i

theorem V_fn {i : Nat} {a : Addr} {x : Str} {p pos : Pos} {e : Expr} {rest : List Expr} {K : AV → AH → Prop} (W : Wd B mg mb) (P : Plain env) (F : Fn B mg i a) (hi : nameOfD (defAt i) = x)
    (hx : env.kindOf x = some .globalImplicit) (hd : (x == ("__debug__" : Str)) = false) (he : starEach (e :: rest) env = (false, eval e env) :: starEach rest env)
    (h : wpL prog w B n env V H (spliced (backTo pos (starEach (e :: rest) env))) (fun l H₁ => opV prog w B n l H₁ (fun vs => call (.ref a) vs) K)) :
    wpV prog w B n env V H (eval (.Call (.Name x p) (e :: rest) [] pos) env) K := by
  obtain ⟨fo, doc, pm, cdv, ct, an, h1, h2, h3⟩ := F.ho
  exact V_callF W.G P (hi ▸ F.mg) h1 h2 hx hd he h
end

theorem Upd.trans {p : Addr} {o o' o'' : AO} {H H' H'' : AH} (x : Upd p o o' H H') (y : Upd p o' o'' H' H'') (nd : (H.map (·.1)).Nodup) : Upd p o o'' H H'' := by
  induction x generalizing H'' with
  | head =>
    cases y with
    | head => exact .head
    | tail y =>
      rw [List.map_cons, List.nodup_cons] at nd
      exact absurd (List.mem_map.mpr ⟨_, y.mem, rfl⟩) nd.1
  | tail x ih =>
    rw [List.map_cons, List.nodup_cons] at nd
    cases y with
    | head => exact absurd (List.mem_map.mpr ⟨_, x.mem, rfl⟩) nd.1
    | tail y => exact .tail (ih y nd.2)
theorem Upd.of_mem {p : Addr} {o : AO} (o' : AO) : ∀ {H : AH}, (p, o) ∈ H → ∃ H', Upd p o o' H H'
  | e :: H, hm => by
    by_cases q : e = (p, o)
    · subst q; exact ⟨_, .head⟩
    · obtain ⟨H', u⟩ := Upd.of_mem o' ((List.mem_cons.mp hm).resolve_left fun z => q z.symm)
      exact ⟨_, .tail u⟩
theorem Upd.keep {p q : Addr} {o o' x : AO} {H H' : AH} (u : Upd p o o' H H') (hm : (q, x) ∈ H) (hne : q ≠ p) : (q, x) ∈ H' := by
  induction u with
  | head =>
    rcases List.mem_cons.mp hm with e | hm
    · cases e; exact absurd rfl hne
    · exact .tail _ hm
  | tail u ih =>
    rcases List.mem_cons.mp hm with e | hm
    · exact e ▸ .head _
    · exact .tail _ (ih hm)
theorem Upd.has {p q : Addr} {o o' : AO} {l : List AV} {H H' : AH} (u : Upd p o o' H H') (hm : Has H q l) (hne : q ≠ p) : Has H' q l := hm.imp (fun z => u.keep z hne) fun z => u.keep z hne
theorem Upd.nd {p : Addr} {o o' : AO} {H H' : AH} (u : Upd p o o' H H') (nd : (H.map (·.1)).Nodup) : (H'.map (·.1)).Nodup := u.keys ▸ nd
section
variable {prog : Program} {w : World} {B : Heap} {n : Nat} {env : Env} {V : Vars} {H : AH} {mg mb : Str → Option Value} {K : AV → AH → Prop}
theorem senv_plain (i : Nat) (L f : Addr) (cdv : Value) (h : (scopeOf (defAt i)).kind = .function) : Plain (senv i L f cdv) := ⟨h, rfl, rfl⟩
theorem G_ix {value slice : Expr} {p : Addr} {l : List AV} {k : Int} {x : AV} (hp : Has H p l) (h0 : 0 ≤ k) (hz : k < 1000000) (hx : l[k.toNat]? = some x) (hs : ∀ o i, subscripted slice false o i = operate [o, i] (getItem o i))
    (h : K x H) : getP prog w B n value slice (.ref p) (.int k) H K := G_list (j := k.toNat) hp (by omega) hx hs (by omega) h
theorem G_tx {value slice : Expr} {l : List AV} {k : Int} {x : AV} (h0 : 0 ≤ k) (hz : k < 1000000) (hx : l[k.toNat]? = some x) (hs : ∀ o i, subscripted slice false o i = operate [o, i] (getItem o i))
    (h : K x H) : getP prog w B n value slice (.tup l) (.int k) H K := G_tup (j := k.toNat) (by omega) hx hs (by omega) h
theorem R_up' {p pos : Pos} {e : Expr} {K : Src → AH → Prop} (W : Wd B mg mb) (P : Plain env)
    (hx : env.kindOf (Str.ofString "range") = some .globalImplicit) (he : starEach [e] env = (false, eval e env) :: starEach [] env)
    (h : wpV prog w B n env V H (eval e env) (fun a H₁ => ∃ m : Nat, a = .int (m : Int) ∧ m ≤ 1000000 ∧ K (.rng 0 m 1) H₁)) : wpSrc prog w B n env V H (.Call (.Name (Str.ofString "range") p) [e] [] pos) K := R_up W.G P (W.nb _ (by decide)) hx he h
theorem R_dn' {p pos : Pos} {e₁ e₂ e₃ : Expr} {K : Src → AH → Prop} (W : Wd B mg mb) (P : Plain env)
    (hx : env.kindOf (Str.ofString "range") = some .globalImplicit) (he : starEach [e₁, e₂, e₃] env = (false, eval e₁ env) :: starEach [e₂, e₃] env) (hp : (backTo pos (starEach [e₂, e₃] env)).any (·.1) = false)
    (h : wpL prog w B n env V H (spliced (backTo pos (starEach [e₁, e₂, e₃] env))) (fun l H₁ => ∃ m : Nat, l = [.int ((m : Int) - 1), .int (-1), .int (-1)] ∧ m ≤ 1000000 ∧ K (.rng ((m : Int) - 1) m (-1)) H₁)) : wpSrc prog w B n env V H (.Call (.Name (Str.ofString "range") p) [e₁, e₂, e₃] [] pos) K := R_dn W.G P (W.nb _ (by decide)) hx he hp h
theorem V_len {p pos : Pos} {e : Expr} (W : Wd B mg mb) (P : Plain env) (hx : env.kindOf (Str.ofString "len") = some .globalImplicit) (he : starEach [e] env = (false, eval e env) :: starEach [] env)
    (h : wpV prog w B n env V H (eval e env) (fun a H₁ => ∃ p l, a = .ref p ∧ Has H₁ p l ∧ l.length < 1000000 ∧ K (.int l.length) H₁)) :
    wpV prog w B n env V H (eval (.Call (.Name (Str.ofString "len") p) [e] [] pos) env) K :=
  V_callB W.G P (W.nb _ (by decide)) (id := "len") (by boot_by_name) (by decide) hx (by decide) he rfl (L_cons (h.mono fun a H₁ ⟨p, l, e, hp, hz, k⟩ => L_nil (by subst e; exact O_lenL hp hz k)) he)
theorem V_max {p pos : Pos} {e₁ e₂ : Expr} (W : Wd B mg mb) (P : Plain env) (hx : env.kindOf (Str.ofString "max") = some .globalImplicit) (he : starEach [e₁, e₂] env = (false, eval e₁ env) :: starEach [e₂] env) (he' : starEach [e₂] env = (false, eval e₂ env) :: starEach [] env)
    (hp : (backTo pos (starEach [e₂] env)).any (·.1) = false)
    (h : wpV prog w B n env V H (eval e₁ env) (fun a H₁ => wpV prog w B n env V H₁ (eval e₂ env) (fun b H₂ => ∃ i j, a = .int i ∧ b = .int j ∧ K (.int (max i j)) H₂))) :
    wpV prog w B n env V H (eval (.Call (.Name (Str.ofString "max") p) [e₁, e₂] [] pos) env) K :=
  V_callB W.G P (W.nb _ (by decide)) (id := "max") (by boot_by_name) (by decide) hx (by decide) he hp
    (L_cons (h.mono fun a H₁ z => L_cons (z.mono fun b H₂ ⟨i, j, e, e', k⟩ => L_nil (by subst e; subst e'; exact O_max k)) he') he)
theorem V_min {p pos : Pos} {e₁ e₂ : Expr} (W : Wd B mg mb) (P : Plain env) (hx : env.kindOf (Str.ofString "min") = some .globalImplicit) (he : starEach [e₁, e₂] env = (false, eval e₁ env) :: starEach [e₂] env) (he' : starEach [e₂] env = (false, eval e₂ env) :: starEach [] env)
    (hp : (backTo pos (starEach [e₂] env)).any (·.1) = false)
    (h : wpV prog w B n env V H (eval e₁ env) (fun a H₁ => wpV prog w B n env V H₁ (eval e₂ env) (fun b H₂ => ∃ i j, a = .int i ∧ b = .int j ∧ K (.int (min i j)) H₂))) :
    wpV prog w B n env V H (eval (.Call (.Name (Str.ofString "min") p) [e₁, e₂] [] pos) env) K :=
  V_callB W.G P (W.nb _ (by decide)) (id := "min") (by boot_by_name) (by decide) hx (by decide) he hp
    (L_cons (h.mono fun a H₁ z => L_cons (z.mono fun b H₂ ⟨i, j, e, e', k⟩ => L_nil (by subst e; subst e'; exact O_min k)) he') he)
theorem V_abs {p pos : Pos} {e : Expr} (W : Wd B mg mb) (P : Plain env) (hx : env.kindOf (Str.ofString "abs") = some .globalImplicit) (he : starEach [e] env = (false, eval e env) :: starEach [] env)
    (h : wpV prog w B n env V H (eval e env) (fun a H₁ => ∃ i, a = .int i ∧ K (.int (if i < 0 then -i else i)) H₁)) :
    wpV prog w B n env V H (eval (.Call (.Name (Str.ofString "abs") p) [e] [] pos) env) K :=
  V_callB W.G P (W.nb _ (by decide)) (id := "abs") (by boot_by_name) (by decide) hx (by decide) he rfl (L_cons (h.mono fun a H₁ ⟨i, e, k⟩ => L_nil (by subst e; exact O_abs k)) he)
theorem V_intB {p pos : Pos} {e : Expr} (W : Wd B mg mb) (P : Plain env) (hx : env.kindOf (Str.ofString "int") = some .globalImplicit) (he : starEach [e] env = (false, eval e env) :: starEach [] env)
    (h : wpV prog w B n env V H (eval e env) (fun a H₁ => ∃ b, a = .bool b ∧ K (.int (if b = true then 1 else 0)) H₁)) :
    wpV prog w B n env V H (eval (.Call (.Name (Str.ofString "int") p) [e] [] pos) env) K :=
  V_callT W.G P (W.nb _ (by decide)) (T := "int") (by boot_by_name) (by decide) hx (by decide) he rfl (L_cons (h.mono fun a H₁ ⟨i, e, k⟩ => L_nil (by subst e; exact O_intB k)) he)
theorem V_listL {p pos : Pos} {e : Expr} (W : Wd B mg mb) (P : Plain env) (hx : env.kindOf (Str.ofString "list") = some .globalImplicit) (he : starEach [e] env = (false, eval e env) :: starEach [] env)
    (h : wpV prog w B n env V H (eval e env) (fun a H₁ => ∃ p l, a = .ref p ∧ Has H₁ p l ∧ l.length ≤ 1000000 ∧ ∀ q, K (.ref q) ((q, .lst l) :: H₁))) :
    wpV prog w B n env V H (eval (.Call (.Name (Str.ofString "list") p) [e] [] pos) env) K :=
  V_callT W.G P (W.nb _ (by decide)) (T := "list") (by boot_by_name) (by decide) hx (by decide) he rfl (L_cons (h.mono fun a H₁ ⟨p, l, e, hp, hz, k⟩ => L_nil (by subst e; exact O_listL hp hz k)) he)
theorem V_listT {p pos : Pos} {e : Expr} (W : Wd B mg mb) (P : Plain env) (hx : env.kindOf (Str.ofString "list") = some .globalImplicit) (he : starEach [e] env = (false, eval e env) :: starEach [] env)
    (h : wpV prog w B n env V H (eval e env) (fun a H₁ => ∃ l, a = .tup l ∧ l.length ≤ 1000000 ∧ ∀ q, K (.ref q) ((q, .lst l) :: H₁))) :
    wpV prog w B n env V H (eval (.Call (.Name (Str.ofString "list") p) [e] [] pos) env) K :=
  V_callT W.G P (W.nb _ (by decide)) (T := "list") (by boot_by_name) (by decide) hx (by decide) he rfl (L_cons (h.mono fun a H₁ ⟨l, e, hz, k⟩ => L_nil (by subst e; exact O_listT hz k)) he)
end

theorem lookup_mem {α : Type} {x : Str} {a : α} : ∀ {l : List (Str × α)}, l.lookup x = some a → (x, a) ∈ l
  | (y, b) :: l, h => by
    rw [List.lookup_cons] at h
    split at h
    · rename_i q; cases h; rw [beq_str q]; exact .head _
    · exact .tail _ (lookup_mem h)
noncomputable def nl : Option NameKind → Bool
  | some .local => false
  | _ => true
theorem nl_ne {k : Option NameKind} (h : nl k = true) : k ≠ some .local := fun e => by subst e; cases h
theorem sees {env cenv : Env} {V V' : Vars} (P : Plain env) (cs : List (Str × Addr)) (k : cenv.scope.kind = .function) (g : cenv.globals = env.globals) (b : cenv.builtins = env.builtins) (hc : cenv.cells = cs) (c : AllL (fun e => env.cells.lookup e.1 = some e.2) cs)
    (v : AllL (fun e => V.lookup e.1 = some e.2 ∧ nl (cenv.kindOf e.1) = true ∧ nl (env.kindOf e.1) = true) V') : Sees env cenv V V' :=
  ⟨P, k, g, b, fun x c' e => c.mem _ (lookup_mem (hc ▸ e)), fun x a e => let ⟨h1, h2, h3⟩ := v.mem _ (lookup_mem e); ⟨h1, nl_ne h2, nl_ne h3⟩⟩
section
variable {prog : Program} {w : World} {B : Heap} {n : Nat} {mg mb : Str → Option Value}
theorem L_nd {env : Env} {V : Vars} {H : AH} {t : Sem (List Value)} {K : List AV → AH → Prop} (h : (H.map (·.1)).Nodup → wpL prog w B n env V H t K) : wpL prog w B n env V H t K := fun A s r i => h i.hi.nd A s r i
theorem up_get {m k : Nat} {a : AV} (h : (((List.range m).map fun (i : Nat) => AV.int (0 + (i : Int) * 1))[k]? = some a)) : k < m ∧ a = .int k := by
  rw [List.getElem?_map] at h
  by_cases q : k < m
  · rw [List.getElem?_range q] at h
    refine ⟨q, ?_⟩
    have : some (AV.int (0 + (k : Int) * 1)) = some a := h
    injection this with this
    rw [← this]; congr 1; omega
  · rw [List.getElem?_eq_none (by rw [List.length_range]; omega)] at h; cases h
theorem dn_get {m k : Nat} {a : AV} (h : (((List.range m).map fun (i : Nat) => AV.int ((m : Int) - 1 + (i : Int) * (-1)))[k]? = some a)) : k < m ∧ a = .int ((m - 1 - k : Nat) : Int) := by
  rw [List.getElem?_map] at h
  by_cases q : k < m
  · rw [List.getElem?_range q] at h
    refine ⟨q, ?_⟩
    have : some (AV.int ((m : Int) - 1 + (k : Int) * (-1))) = some a := h
    injection this with this
    rw [← this]; congr 1; omega
  · rw [List.getElem?_eq_none (by rw [List.length_range]; omega)] at h; cases h
theorem len_rng {m : Nat} {f : Nat → AV} : ((List.range m).map f).length = m := by rw [List.length_map, List.length_range]

theorem comp_plain {env : Env} {scope : Scope} {cl : List (Str × Addr)} {C : Addr} (P : Plain env) (hk : scope.kind = .function) : Plain (compEnvC scope cl C env) := ⟨hk, P.g, P.b⟩
theorem compUp {env : Env} {scope : Scope} {cl : List (Str × Addr)} {V' : Vars} {target elt : Expr} {ifs : List Expr} {H₁ : AH} {K : List AV → AH → Prop} {m : Nat} (P : Plain env) (hk : scope.kind = .function) (hm : m ≤ 1000000) (J : Nat → List AV → AH → Prop) (h0 : J 0 [] H₁)
    (step : ∀ C k ys H', Plain (compEnvC scope cl C env) → k < m → J k ys H' → turnJ prog w B n (compEnvC scope cl C env) V' H' target elt ifs (.int k) ys (J (k + 1))) (hend : ∀ ys H', J m ys H' → K ys H') : compSrc prog w B n env scope cl V' target elt ifs K (.rng 0 m 1) H₁ :=
  ⟨_, rfl, by rw [len_rng]; exact hm, J, h0, fun _ _ _ _ => rfl, fun C k a ys H' e j => by obtain ⟨q, rfl⟩ := up_get e; exact step C k ys H' (comp_plain P hk) q j, fun ys H' j => hend ys H' (by rw [len_rng] at j; exact j)⟩
theorem compLst {env : Env} {scope : Scope} {cl : List (Str × Addr)} {V' : Vars} {target elt : Expr} {ifs : List Expr} {H₁ : AH} {K : List AV → AH → Prop} {p : Addr} {l : List AV} (hp : Has H₁ p l) (P : Plain env) (hk : scope.kind = .function) (hm : l.length ≤ 1000000) (J : Nat → List AV → AH → Prop) (h0 : J 0 [] H₁) (hi : ∀ k ys H', J k ys H' → Has H' p l)
    (step : ∀ C k a ys H', Plain (compEnvC scope cl C env) → l[k]? = some a → J k ys H' → turnJ prog w B n (compEnvC scope cl C env) V' H' target elt ifs a ys (J (k + 1))) (hend : ∀ ys H', J l.length ys H' → K ys H') : compSrc prog w B n env scope cl V' target elt ifs K (.lst p) H₁ :=
  ⟨_, hp, hm, J, h0, hi, fun C k a ys H' => step C k a ys H' (comp_plain P hk), hend⟩
theorem turn1 {cenv : Env} {V' : Vars} {H : AH} {x : Str} {p : Pos} {elt : Expr} {a : AV} {ys : List AV} {J : List AV → AH → Prop} (hx : cenv.kindOf x = some .local) (h : wpV prog w B n cenv ((x, a) :: V') H (eval elt cenv) (fun y H₂ => J (ys ++ [y]) H₂)) :
    turnJ prog w B n cenv V' H (.Name x p) elt [] a ys J := ⟨_, .name hx, fun _ => h.mono fun _ _ k => .here k, fun e => absurd e (by decide)⟩
theorem turn1i {cenv : Env} {V' : Vars} {H : AH} {x : Str} {p : Pos} {elt c : Expr} {a : AV} {ys : List AV} {J : List AV → AH → Prop} (hx : cenv.kindOf x = some .local)
    (h : wpB prog w B n cenv ((x, a) :: V') H (isTrue c cenv (eval c cenv)) (fun b H₁ => (b = true → wpV prog w B n cenv ((x, a) :: V') H₁ (eval elt cenv) (fun y H₂ => J (ys ++ [y]) H₂)) ∧ (b = false → J ys H₁))) :
    turnJ prog w B n cenv V' H (.Name x p) elt [c] a ys J := ⟨_, .name hx, wpB.mono h fun _ _ k => ⟨fun e => (k.1 e).mono fun _ _ k => .here k, fun e => .here (k.2 e)⟩⟩
theorem turn2 {cenv : Env} {V' : Vars} {H : AH} {x y : Str} {p q tp : Pos} {kk : Nat} {elt : Expr} {a b : AV} {ys : List AV} {J : List AV → AH → Prop} (hx : cenv.kindOf x = some .local) (hy : cenv.kindOf y = some .local) (h : wpV prog w B n cenv ((y, b) :: (x, a) :: V') H (eval elt cenv) (fun y H₂ => J (ys ++ [y]) H₂)) :
    turnJ prog w B n cenv V' H (.Tuple [.Name x p, .Name y q] kk tp) elt [] (.tup [a, b]) ys J := ⟨_, .two hx hy, fun _ => h.mono fun _ _ k => .here k, fun e => absurd e (by decide)⟩
theorem turn2i {cenv : Env} {V' : Vars} {H : AH} {x y : Str} {p q tp : Pos} {kk : Nat} {elt c : Expr} {a b : AV} {ys : List AV} {J : List AV → AH → Prop} (hx : cenv.kindOf x = some .local) (hy : cenv.kindOf y = some .local)
    (h : wpB prog w B n cenv ((y, b) :: (x, a) :: V') H (isTrue c cenv (eval c cenv)) (fun t H₁ => (t = true → wpV prog w B n cenv ((y, b) :: (x, a) :: V') H₁ (eval elt cenv) (fun y H₂ => J (ys ++ [y]) H₂)) ∧ (t = false → J ys H₁))) :
    turnJ prog w B n cenv V' H (.Tuple [.Name x p, .Name y q] kk tp) elt [c] (.tup [a, b]) ys J := ⟨_, .two hx hy, wpB.mono h fun _ _ k => ⟨fun e => (k.1 e).mono fun _ _ k => .here k, fun e => .here (k.2 e)⟩⟩

def forBody (prog : Program) (w : World) (B : Heap) (n : Nat) (env : Env) (target : Expr) (body rest : List Stmt) (K : AF → Vars → AH → Prop) (V : Vars) (src : Src) (H₁ : AH) : Prop :=
  ∃ l, src.items H₁ l ∧ ∃ I : Nat → Vars → AH → Prop, I 0 V H₁ ∧ (∀ k V' H', I k V' H' → src.items H' l) ∧
      (∀ k a V' H', l[k]? = some a → I k V' H' → ∃ F, Tgt env target a F ∧ wpS prog w B n env (F V') H' body (loopK prog w B n env rest (Again (I (k + 1))) K)) ∧
      (∀ V' H', I l.length V' H' → wpS prog w B n env V' H' rest K)
theorem S_for' {env : Env} {V : Vars} {H : AH} {target iter : Expr} {body : List Stmt} {pos : Pos} {rest : List Stmt} {K : AF → Vars → AH → Prop} (P : Plain env) (hs : ∀ x, foldedSetIterable iter env x = pure x)
    (h : wpSrc prog w B n env V H iter (forBody prog w B n env target body rest K V)) : wpS prog w B n env V H (.For target iter body [] pos :: rest) K := S_for P hs h
theorem forUp {env : Env} {V : Vars} {H₁ : AH} {x : Str} {p : Pos} {body rest : List Stmt} {K : AF → Vars → AH → Prop} {m : Nat} (hx : Storable env x) (I : Nat → Vars → AH → Prop) (h0 : I 0 V H₁)
    (step : ∀ k V' H', k < m → I k V' H' → wpS prog w B n env ((x, .int k) :: V') H' body (loopK prog w B n env rest (Again (I (k + 1))) K)) (hend : ∀ V' H', I m V' H' → wpS prog w B n env V' H' rest K) :
    forBody prog w B n env (.Name x p) body rest K V (.rng 0 m 1) H₁ :=
  ⟨_, rfl, I, h0, fun _ _ _ _ => rfl, fun k a V' H' e j => by obtain ⟨q, rfl⟩ := up_get e; exact ⟨_, .name hx, step k V' H' q j⟩, fun V' H' j => hend V' H' (by rw [len_rng] at j; exact j)⟩
theorem forDn {env : Env} {V : Vars} {H₁ : AH} {x : Str} {p : Pos} {body rest : List Stmt} {K : AF → Vars → AH → Prop} {m : Nat} (hx : Storable env x) (I : Nat → Vars → AH → Prop) (h0 : I 0 V H₁)
    (step : ∀ k V' H', k < m → I k V' H' → wpS prog w B n env ((x, .int (m - 1 - k : Nat)) :: V') H' body (loopK prog w B n env rest (Again (I (k + 1))) K)) (hend : ∀ V' H', I m V' H' → wpS prog w B n env V' H' rest K) :
    forBody prog w B n env (.Name x p) body rest K V (.rng ((m : Int) - 1) m (-1)) H₁ :=
  ⟨_, rfl, I, h0, fun _ _ _ _ => rfl, fun k a V' H' e j => by obtain ⟨q, rfl⟩ := dn_get e; exact ⟨_, .name hx, step k V' H' q j⟩, fun V' H' j => hend V' H' (by rw [len_rng] at j; exact j)⟩
theorem forLst {env : Env} {V : Vars} {H₁ : AH} {x : Str} {p : Pos} {body rest : List Stmt} {K : AF → Vars → AH → Prop} {q : Addr} {l : List AV} (hx : Storable env x) (hq : Has H₁ q l) (I : Nat → Vars → AH → Prop) (h0 : I 0 V H₁) (hi : ∀ k V' H', I k V' H' → Has H' q l)
    (step : ∀ k a V' H', l[k]? = some a → I k V' H' → wpS prog w B n env ((x, a) :: V') H' body (loopK prog w B n env rest (Again (I (k + 1))) K)) (hend : ∀ V' H', I l.length V' H' → wpS prog w B n env V' H' rest K) :
    forBody prog w B n env (.Name x p) body rest K V (.lst q) H₁ :=
  ⟨l, hq, I, h0, hi, fun k a V' H' e j => ⟨_, .name hx, step k a V' H' e j⟩, hend⟩
end

local macro_rules | `(tactic| walk_at "wb") => `(tactic| (conv => arg 8; whnf))
local macro_rules | `(tactic| walk_at "mem") => `(tactic| first
  | assumption
  | exact List.Mem.head _
  | (apply List.Mem.tail; walk_at "mem"))
local macro_rules | `(tactic| walk_at "has") => `(tactic| first
  | assumption
  | exact Or.inl (by walk_at "mem")
  | exact Or.inr (by walk_at "mem")
  | (apply Has.tl; walk_at "has"))
local macro_rules | `(tactic| walk_at "lt") => `(tactic| first
  | assumption
  | exact Nat.lt_of_lt_of_le (by assumption) (Nat.le_trans (by assumption) (by decide))
  | exact Nat.le_trans (by assumption) (by decide)
  | omega
  | (simp only [List.length_cons, List.length_nil, List.length_map, List.length_append, List.length_set, List.length_replicate, List.length_take, List.length_drop]; omega))
local macro_rules | `(tactic| walk_at "wk") => `(tactic| first
  | (with_reducible first | refine V_int ?_ | refine V_str ?_ | refine V_none ?_ | refine V_bool ?_ | refine V_BinOp ?_ | refine V_UnaryOp ?_ | refine V_Tuple ?_ | refine V_List ?_ | refine V_Dict ?_ | refine V_And2 ?_ | refine L_nil ?_ | refine S_if ?_ | refine B_not ?_ | refine B_andN ?_ | refine B_orN ?_ | refine B_and ?_ | refine B_or ?_ | refine S_ret ?_ | refine P_none ?_ | refine P_some ?_ | refine S_nil ?_ | refine O_add ?_ | refine O_sub ?_ | refine O_neg ?_ | refine O_lt ?_ | refine O_le ?_ | refine O_gt ?_ | refine O_ge ?_ | refine O_eqi ?_ | refine O_nei ?_ | refine nn_ ?_ | refine tf_ ?_ | refine ft_ ?_ | refine tt_ ?_ | refine ff_ ?_)
  | ((with_reducible refine' V_local ?h1 ?_ ?h2 ?h3 ?h4); (case h3 => rfl); (case h1 => first | assumption | rfl); (case h2 | h4 => rfl))
  | ((with_reducible refine' V_cell ?h1 ?_ ?h2 ?h3 ?h4 ?h5); (case h4 => rfl); (case h1 => first | assumption | rfl); (case h2 | h3 | h5 => rfl))
  | ((with_reducible refine' V_free ?h1 ?_ ?h2 ?h3 ?h4 ?h5 ?h6); (case h4 => rfl); (case h1 => first | assumption | rfl); (case h2 | h3 | h5 | h6 => rfl))
  | ((with_reducible refine' V_Compare ?_ ?h1); (case h1 => with_unfolding_all rfl))
  | ((with_reducible refine' V_Slice ?_ ?h1); (case h1 => (intro _ _; rfl)))
  | (with_reducible refine V_Sub ?_)
  | ((with_reducible refine' V_len ?h1 ?h2 ?h3 ?h4 ?_); (case h1 | h2 => assumption); (case h3 | h4 => rfl))
  | ((with_reducible refine' V_max ?h1 ?h2 ?h3 ?h4 ?h5 ?h6 ?_); (case h1 | h2 => assumption); (case h3 | h4 | h5 | h6 => rfl))
  | ((with_reducible refine' V_min ?h1 ?h2 ?h3 ?h4 ?h5 ?h6 ?_); (case h1 | h2 => assumption); (case h3 | h4 | h5 | h6 => rfl))
  | ((with_reducible refine' V_listL ?h1 ?h2 ?h3 ?h4 ?_); (case h1 | h2 => assumption); (case h3 | h4 => rfl))
  | ((with_reducible refine' V_abs ?h1 ?h2 ?h3 ?h4 ?_); (case h1 | h2 => assumption); (case h3 | h4 => rfl))
  | ((with_reducible refine' V_intB ?h1 ?h2 ?h3 ?h4 ?_); (case h1 | h2 => assumption); (case h3 | h4 => rfl))
  | ((with_reducible refine' L_cons ?_ ?h1); (case h1 => rfl))
  | ((with_reducible refine' B_cmp ?_ ?h1); (case h1 => with_unfolding_all rfl))
  | ((with_reducible refine' B_chain ?_ ?h1); (case h1 => with_unfolding_all rfl))
  | ((with_reducible refine' S_assign ?h1 (.loc ?h2) ?h3 ?_); (case h1 => assumption); (case h2 | h3 => rfl))
  | ((with_reducible refine' S_assign ?h1 (.cell ?h2 ?h4) ?h3 ?_); (case h1 => assumption); (case h2 | h4 | h3 => rfl))
  | ((with_reducible refine' S_set ?h1 ?_); (case h1 => rfl))
  | ((with_reducible refine' S_expr ?h1 ?h2 ?_); (case h1 | h2 => rfl))
  | ((with_reducible refine' V_append ?h1 ?h2 ?h3 ?h4 ?_); (case h1 | h2 | h3 | h4 => rfl))
  | ((with_reducible refine' V_extend ?h1 ?h2 ?h3 ?h4 ?_); (case h1 | h2 | h3 | h4 => rfl))
  | ((with_reducible refine' S_two ?h1 (.loc ?h2) (.loc ?h3) ?h4 ?h5 ?_); (case h1 => assumption); (case h2 | h3 | h4 | h5 => rfl))
  | ((with_reducible refine' S_twoX ?h1 (.loc ?h2) (.loc ?h3) ?h4 ?h5 ?_); (case h1 => assumption); (case h2 | h3 | h4 | h5 => rfl))
  | ((with_reducible refine' S_for' ?h1 ?h2 ?_); (case h1 => assumption); (case h2 => exact fun _ => rfl))
  | ((with_reducible refine' R_up' ?h1 ?h2 ?h3 ?h4 ?_); (case h1 | h2 => assumption); (case h3 | h4 => rfl))
  | ((with_reducible refine' R_dn' ?h1 ?h2 ?h3 ?h4 ?h5 ?_); (case h1 | h2 => assumption); (case h3 | h4 | h5 => rfl))
  | ((with_reducible refine' O_mod ?_ ?h1); (case h1 => first | decide | omega))
  | ((with_reducible refine' O_div ?_ ?h1 ?h2); (case h1 | h2 => first | decide | omega))
  | ((with_reducible refine' G_ix ?h1 ?h2 ?h3 ?h4 ?h5 ?_); (case h5 => exact fun _ _ => rfl); (case h1 => walk_at "has"); (case h2 | h3 => decide); (case h4 => rfl))
  | ((with_reducible refine' G_tx ?h2 ?h3 ?h4 ?h5 ?_); (case h5 => exact fun _ _ => rfl); (case h2 | h3 => decide); (case h4 => rfl))
  | refine ⟨Nat.le_of_ble_eq_true rfl, ?_⟩
  | dsimp only [andThen, funK, loopK]
  | refine ⟨_, rfl, ?_⟩
  | refine ⟨_, _, rfl, rfl, ?_⟩
  | refine ⟨_, _, rfl, by walk_at "has", by walk_at "lt", ?_⟩
  | refine ⟨_, _, _, rfl, by walk_at "has", by walk_at "lt", rfl, ?_⟩
  | ((with_reducible refine' O_mul ?_ ?h1); (case h1 => omega)))

section
variable {prog : Program} {w : World} {B : Heap} {n : Nat} {mg mb : Str → Option Value}
theorem draw_spec {a : Addr} {H : AH} {pen q : Addr} {cells : List Int} {spot : Nat} {rest m : Int} {K : AV → AH → Prop} (W : Wd B mg mb) (F : Fn B mg 10 a)
    (hm : 1 ≤ m ∧ m ≤ 100) (hs : spot ≤ 1000) (hr : 0 ≤ rest) (hl : cells.length ≤ 1000) (hq : Has H q (cells.map .int)) (hne : q ≠ pen) (hp : (pen, .arr [.ref q, .int spot, .int rest]) ∈ H)
    (hK : ∀ (d : Int) (spot' : Nat) (rest' : Int) H', 0 ≤ d → d < m → spot' ≤ spot + 1 → 0 ≤ rest' → Upd pen (.arr [.ref q, .int spot, .int rest]) (.arr [.ref q, .int spot', .int rest']) H H' → K (.int d) H') :
    opV prog w B (n + 1) [.ref pen, .int m] H (fun vs => call (.ref a) vs) K := by
  refine O_nd fun nd => ?_
  refine enter W F ⟨rfl, rfl, rfl⟩ (names := ["pen", "many"]) (by decide) rfl (fun _ _ _ _ _ _ _ _ => BindsTo.of_eq rfl) (fun _ => ⟨.inl rfl, .inl rfl, trivial⟩) fun L cdv P => ?_
  dsimp only [List.zip_cons_cons, List.zip_nil_left]
  walk_at "wb"
  repeat walk_at "wk"
  refine ⟨fun h => ?_, fun h => ?_⟩
  · have h' : 0 < rest := of_decide_eq_true h
    repeat walk_at "wk"
    obtain ⟨H1, u1⟩ := Upd.of_mem (.arr [.ref q, .int spot, .int (rest / m)]) hp
    refine T_list (l := [.ref q, .int spot, .int rest]) (j := 2) u1 (.inr rfl) rfl (Nat.lt_succ_self _) (by omega) ?_
    repeat walk_at "wk"
    exact hK _ spot (rest / m) H1 (Int.emod_nonneg _ (by omega)) (Int.emod_lt_of_pos _ (by omega)) (by omega) (Int.ediv_nonneg hr (by omega)) u1
  · repeat walk_at "wk"
    obtain ⟨H1, u1⟩ := Upd.of_mem (.arr [.ref q, .int (spot + 1 : Nat), .int rest]) hp
    refine T_list (l := [.ref q, .int spot, .int rest]) (j := 1) u1 (.inr rfl) rfl (Nat.succ_lt_succ (Nat.zero_lt_succ _)) (by omega) ?_
    have hp1 := u1.mem'
    have hq1 := u1.has hq hne
    repeat walk_at "wk"
    have tail2 : ∀ (c : Int) {V : Vars}, Vars.at_ V "pen" (AV.ref pen) → Vars.at_ V "many" (AV.int m) → Vars.at_ V "spot" (AV.int spot) → Vars.at_ V "cell" (AV.int c) → wpS prog w B n (senv 10 L a cdv) V H1 ((bodyOf (defAt 10)).drop 6) (funK K) := by
      intro c V v1 v2 v3 v4
      walk_at "wb"
      repeat walk_at "wk"
      have c0 := Int.emod_nonneg c (b := 2147483579) (by decide)
      have c1 := Int.emod_lt_of_pos c (b := 2147483579) (by decide)
      have big : 10 ^ 24 ≤ 2 ^ 1000 := Nat.le_trans (by decide : 10 ^ 24 ≤ 2 ^ 200) (Nat.pow_le_pow_right (by decide) (by decide))
      refine O_pow (k := 3) ?_ (Nat.lt_of_lt_of_le (by omega) big) (by decide)
      repeat walk_at "wk"
      generalize e4 : (c % 2147483579 + 92111 * (spot : Int) + 5741) ^ 3 = u
      have u0 := Int.emod_nonneg u (b := 2147483647) (by decide)
      have uu := Int.emod_lt_of_pos u (b := 2147483647) (by decide)
      generalize e5 : u % 2147483647 = x at u0 uu
      have x2 : x * (2 * (spot : Int) + 373) ≤ 2147483647 * 2373 := Int.mul_le_mul (by omega) (by omega) (by omega) (by omega)
      have x1 : 0 ≤ x * (2 * (spot : Int) + 373) := Int.mul_nonneg u0 (by omega)
      generalize e6 : x * (2 * (spot : Int) + 373) = y at x1 x2
      refine O_pow (k := 3) ?_ (Nat.lt_of_lt_of_le (by omega) big) (by decide)
      repeat walk_at "wk"
      exact hK _ (spot + 1) rest H1 (Int.emod_nonneg _ (by omega)) (Int.emod_lt_of_pos _ (by omega)) (by omega) hr u1
    have tail : ∀ (c : Int) (V : Vars), Vars.at_ V "pen" (AV.ref pen) → Vars.at_ V "many" (AV.int m) → Vars.at_ V "spot" (AV.int spot) → Vars.at_ V "cell" (AV.int c) → wpS prog w B n (senv 10 L a cdv) V H1 ((bodyOf (defAt 10)).drop 5) (funK K) := by
      intro c V v1 v2 v3 v4
      walk_at "wb"
      repeat walk_at "wk"
      refine dc_ (fun _ => ?_) (fun _ => ff_ ?_)
      · repeat walk_at "wk"
        refine O_pow (k := 18) ?_ (by decide) (by decide)
        repeat walk_at "wk"
        refine dc_ (fun h => ?_) (fun h => ?_)
        · repeat walk_at "wk"
          refine O_pow (k := 18) ?_ (by decide) (by decide)
          repeat walk_at "wk"
          have hv : 0 ≤ 2 * ((if c < 0 then -c else c) - 10 ^ 18) + if decide (c < 0) = true then 1 else 0 := by
            have h' : (if c < 0 then -c else c) ≥ (10 : Int) ^ 18 := h
            generalize (if c < 0 then -c else c) = z at h' ⊢
            have h1 : (0 : Int) ≤ if decide (c < 0) = true then 1 else 0 := by split <;> decide
            omega
          generalize 2 * ((if c < 0 then -c else c) - 10 ^ 18) + (if decide (c < 0) = true then 1 else 0) = z at hv ⊢
          obtain ⟨H2, u2⟩ := Upd.of_mem (.arr [.ref q, .int (spot + 1 : Nat), .int z]) hp1
          refine T_list (l := [.ref q, .int (spot + 1 : Nat), .int rest]) (j := 2) u2 (.inr rfl) rfl (Nat.lt_succ_self _) (by omega) ?_
          have hp2 := u2.mem'
          repeat walk_at "wk"
          obtain ⟨H3, u3⟩ := Upd.of_mem (.arr [.ref q, .int (spot + 1 : Nat), .int (z / m)]) hp2
          refine T_list (l := [.ref q, .int (spot + 1 : Nat), .int z]) (j := 2) u3 (.inr rfl) rfl (Nat.lt_succ_self _) (by omega) ?_
          repeat walk_at "wk"
          exact hK _ (spot + 1) (z / m) H3 (Int.emod_nonneg _ (by omega)) (Int.emod_lt_of_pos _ (by omega)) (by omega) (Int.ediv_nonneg hv (by omega)) ((u1.trans u2 nd).trans u3 nd)
        · refine ff_ (S_nil ?_)
          exact tail2 _ v1 v2 v3 v4
      · refine S_nil ?_
        exact tail2 _ v1 v2 v3 v4
    refine ⟨fun h => ?_, fun h => ?_⟩
    · have h' : 0 < (cells.map AV.int).length := by have := of_decide_eq_true h; omega
      have h'' := h'
      rw [List.length_map] at h''
      repeat walk_at "wk"
      obtain ⟨c, hc⟩ : ∃ c : Int, (cells.map AV.int)[((spot : Int) % (cells.map AV.int).length).toNat]? = some (.int c) := by
        have e1 := Int.emod_nonneg (spot : Int) (b := (cells.map AV.int).length) (by omega)
        have e2 := Int.emod_lt_of_pos (spot : Int) (b := (cells.map AV.int).length) (by omega)
        rw [List.length_map] at e1 e2 ⊢
        refine ⟨cells[((spot : Int) % cells.length).toNat]'(by omega), ?_⟩
        rw [List.getElem?_map, List.getElem?_eq_getElem (by omega)]; rfl
      have e1 := Int.emod_nonneg (spot : Int) (b := (cells.map AV.int).length) (by omega)
      have e2 := Int.emod_lt_of_pos (spot : Int) (b := (cells.map AV.int).length) (by omega)
      have e3 : (cells.map AV.int).length ≤ 1000 := by rw [List.length_map]; exact hl
      refine G_ix hq1 e1 (by omega) hc (fun _ _ => rfl) ?_
      refine S_nil ?_
      exact tail c _ rfl rfl rfl rfl
    · refine S_nil ?_
      exact tail (8543 * spot + 3307) _ rfl rfl rfl rfl
end

section
variable {prog : Program} {w : World} {B : Heap} {n : Nat} {mg mb : Str → Option Value}
def Kept (p : Addr) (H H' : AH) : Prop := ∀ e ∈ H, e.1 ≠ p → e ∈ H'
theorem Kept.refl {p : Addr} {H : AH} : Kept p H H := fun _ h _ => h
theorem Kept.trans {p : Addr} {H H₁ H₂ : AH} (x : Kept p H H₁) (y : Kept p H₁ H₂) : Kept p H H₂ := fun e h k => y e (x e h k) k
theorem Kept.cons {p : Addr} {H H₁ : AH} (x : Kept p H H₁) (e : Addr × AO) : Kept p H (e :: H₁) := fun e' h k => .tail _ (x e' h k)
theorem Kept.has {p q : Addr} {l : List AV} {H H' : AH} (x : Kept p H H') (hm : Has H q l) (hne : q ≠ p) : Has H' q l := hm.imp (fun z => x _ z hne) fun z => x _ z hne
theorem Upd.kept {p : Addr} {o o' : AO} {H H' : AH} (u : Upd p o o' H H') : Kept p H H' := fun e h k => u.keep (o := o) (o' := o') (q := e.1) (x := e.2) h k
theorem ne_of_nd {p q : Addr} {o o' : AO} {H : AH} (nd : (((p, o) :: H).map (·.1)).Nodup) (h : (q, o') ∈ H) : q ≠ p := fun e => by
  rw [List.map_cons, List.nodup_cons] at nd
  exact nd.1 (e ▸ List.mem_map.mpr ⟨_, h, rfl⟩)
structure Pen (H : AH) (pen q : Addr) (cells : List Int) (b : Nat) : Prop where
  hp : ∃ (spot : Nat) (rest : Int), spot ≤ b ∧ 0 ≤ rest ∧ (pen, .arr [.ref q, .int spot, .int rest]) ∈ H
  hq : Has H q (cells.map .int)
  ne : q ≠ pen
  l : cells.length ≤ 1000
theorem Pen.cons {H : AH} {pen q : Addr} {cells : List Int} {b : Nat} (h : Pen H pen q cells b) (e : Addr × AO) : Pen (e :: H) pen q cells b :=
  let ⟨s, r, h1, h2, h3⟩ := h.hp
  ⟨⟨s, r, h1, h2, .tail _ h3⟩, h.hq.imp (.tail _) (.tail _), h.ne, h.l⟩
theorem Pen.le {H : AH} {pen q : Addr} {cells : List Int} {b c : Nat} (h : Pen H pen q cells b) (k : b ≤ c) : Pen H pen q cells c :=
  let ⟨s, r, h1, h2, h3⟩ := h.hp
  ⟨⟨s, r, Nat.le_trans h1 k, h2, h3⟩, h.hq, h.ne, h.l⟩
theorem Pen.nePen {H : AH} {pen q : Addr} {cells : List Int} {b : Nat} (h : Pen H pen q cells b) {p : Addr} {o : AO} (nd : (((p, o) :: H).map (·.1)).Nodup) : p ≠ pen :=
  let ⟨s, r, h1, h2, h3⟩ := h.hp
  (ne_of_nd nd h3).symm
theorem draw_c {a : Addr} {H : AH} {pen q : Addr} {cells : List Int} {b : Nat} {m : Int} {K : AV → AH → Prop} (W : Wd B mg mb) (F : Fn B mg 10 a)
    (hm : 1 ≤ m ∧ m ≤ 100) (hb : b ≤ 1000) (hp : Pen H pen q cells b)
    (hK : ∀ (d : Nat) H', (d : Int) < m → Kept pen H H' → Pen H' pen q cells (b + 1) → K (.int d) H') :
    opV prog w B (n + 1) [.ref pen, .int m] H (fun vs => call (.ref a) vs) K := by
  obtain ⟨s, r, h1, h2, h3⟩ := hp.hp
  refine draw_spec W F hm (by omega) h2 hp.l hp.hq hp.ne h3 fun d s' r' H' d0 d1 hs hr u => ?_
  obtain ⟨d, rfl⟩ := Int.eq_ofNat_of_zero_le d0
  exact hK d H' d1 u.kept ⟨⟨s', r', by omega, hr, u.mem'⟩, u.has hp.hq hp.ne, hp.ne, hp.l⟩

noncomputable def prt : Nat → AV
  | 0 => .tup [.str "int", .int 7]
  | 1 => .tup [.str "name", .str "A"]
  | 2 => .tup [.str "array", .tup [.str "int", .int 1]]
  | _ => .tup [.str "array", .tup [.str "int", .int 2]]
theorem part_c {a a' : Addr} {H : AH} {pen q : Addr} {cells : List Int} {b : Nat} {K : AV → AH → Prop} (W : Wd B mg mb) (F : Fn B mg 10 a) (F' : Fn B mg 11 a') (hb : b ≤ 1000) (hp : Pen H pen q cells b)
    (hK : ∀ (d : Nat) H', d < 4 → Kept pen H H' → Pen H' pen q cells (b + 1) → K (prt d) H') :
    opV prog w B (n + 2) [.ref pen] H (fun vs => call (.ref a') vs) K := by
  refine enter W F' ⟨rfl, rfl, rfl⟩ (names := ["pen"]) (by decide) rfl (fun _ _ _ _ _ _ _ => BindsTo.of_eq rfl) (fun _ => ⟨.inl rfl, trivial⟩) fun L cdv P => ?_
  dsimp only [List.zip_cons_cons, List.zip_nil_left]
  walk_at "wb"
  repeat walk_at "wk"
  refine fun z => V_nd fun nd => ?_
  have nz := hp.nePen nd
  refine V_fn W P F rfl rfl (by decide) rfl ?_
  repeat walk_at "wk"
  refine draw_c W F (by decide) hb (hp.cons _) fun d H' hd k hp' => ?_
  have k' := k _ (.head _) nz
  have : ∃ l : List AV, l = [prt 0, prt 1, prt 2, prt 3] ∧ (z, .lst l) ∈ H' := ⟨_, rfl, k'⟩
  obtain ⟨l, e, hz⟩ := this
  refine G_list (j := d) (l := l) (x := prt d) (.inl hz) rfl ?_ (fun _ _ => rfl) (by omega) (hK d H' (by omega) (fun e h q => k e (.tail _ h) q) hp')
  subst e
  match d, hd with
  | 0, _ => rfl
  | 1, _ => rfl
  | 2, _ => rfl
  | 3, _ => rfl
  | d + 4, h => omega
end

section
variable {prog : Program} {w : World} {B : Heap} {n : Nat} {mg mb : Str → Option Value}
def Parts (l : List AV) : Prop := ∀ x ∈ l, ∃ d, d < 4 ∧ x = prt d
theorem pair_c {a a' c : Addr} {H : AH} {pen q : Addr} {cells : List Int} {b : Nat} {K : AV → AH → Prop} (W : Wd B mg mb) (F : Fn B mg 10 a) (F' : Fn B mg 11 a') (F'' : Fn B mg 12 c) (hb : b + 40 ≤ 1000) (hp : Pen H pen q cells b)
    (hK : ∀ p₁ p₂ l₁ l₂ H', l₁.length ≤ 5 → l₂.length ≤ 8 → Parts l₁ → Parts l₂ → Kept pen H H' → Pen H' pen q cells (b + 40) → (p₁, .lst l₁) ∈ H' → (p₂, .lst l₂) ∈ H' → p₁ ≠ pen → p₂ ≠ pen → K (.tup [.ref p₁, .ref p₂]) H') :
    opV prog w B (n + 3) [.ref pen] H (fun vs => call (.ref c) vs) K := by
  refine enter W F'' ⟨rfl, rfl, rfl⟩ (names := ["pen"]) (by decide) rfl (fun _ _ _ _ _ _ _ => BindsTo.of_eq rfl) (fun _ => ⟨.inr ⟨rfl, rfl⟩, trivial⟩) fun L cdv P => ?_
  dsimp only [List.zip_cons_cons, List.zip_nil_left]
  walk_at "wb"
  refine S_assignComp P rfl rfl (by decide) rfl (by decide) rfl (fun _ => rfl) (V' := [("pen", .ref pen)]) (fun C => sees P _ rfl rfl rfl rfl ⟨rfl, trivial⟩ ⟨⟨rfl, rfl, rfl⟩, trivial⟩) ?_
  repeat walk_at "wk"
  refine V_fn W P F rfl rfl (by decide) rfl ?_
  repeat walk_at "wk"
  refine draw_c W F (by decide) (by omega) hp fun d H1 hd k1 hp1 => ⟨d, rfl, by omega, ?_⟩
  refine compUp P rfl (by omega) (fun k ys H' => ys.length = k ∧ Parts ys ∧ Kept pen H1 H' ∧ Pen H' pen q cells (b + 1 + k)) ⟨rfl, fun x h => absurd h List.not_mem_nil, .refl, hp1⟩ (fun C k ys H' P' hk j => ?_) (fun ys H' j D => ?_)
  · refine turn1 rfl ?_
    refine V_fn W P' F' rfl rfl (by decide) rfl ?_
    repeat walk_at "wk"
    refine part_c W F F' (by omega) j.2.2.2 fun d H2 hd k2 hp2 => ⟨by rw [List.length_append]; exact congrArg (· + 1) j.1, fun x h => ?_, j.2.2.1.trans k2, hp2⟩
    rcases List.mem_append.mp h with h | h
    · exact j.2.1 x h
    · exact ⟨d, hd, List.mem_singleton.mp h⟩
  refine S_nd fun nd => ?_
  have dp := j.2.2.2.nePen nd
  repeat walk_at "wk"
  refine V_fn W P F rfl rfl (by decide) rfl ?_
  repeat walk_at "wk"
  refine draw_c W F (by decide) (by omega) (j.2.2.2.cons _) fun d2 H2 hd2 k2 hp2 => ?_
  have kD := k2 _ (.head _) dp
  have kk : Kept pen H H2 := k1.trans (j.2.2.1.trans fun e h q => k2 e (.tail _ h) q)
  repeat walk_at "wk"
  refine dc_ (fun h => ?_) (fun h => ?_)
  · repeat walk_at "wk"
    refine V_comp (by decide) rfl (by decide) rfl (fun _ => rfl) (V' := [("pen", .ref pen)]) (fun C => sees P _ rfl rfl rfl rfl ⟨rfl, trivial⟩ ⟨⟨rfl, rfl, rfl⟩, trivial⟩) ?_
    repeat walk_at "wk"
    refine V_fn W P F rfl rfl (by decide) rfl ?_
    repeat walk_at "wk"
    refine draw_c W F (by decide) (by omega) hp2 fun d3 H3 hd3 k3 hp3 => ⟨d3, rfl, by omega, ?_⟩
    refine compUp P rfl (by omega) (fun k ys H' => ys.length = k ∧ Parts ys ∧ Kept pen H3 H' ∧ Pen H' pen q cells (b + 20 + k)) ⟨rfl, fun x h => absurd h List.not_mem_nil, .refl, hp3.le (by omega)⟩ (fun C k ys H' P' hk j => ?_) (fun ys3 H' j3 D3 => ?_)
    · refine turn1 rfl ?_
      refine V_fn W P' F' rfl rfl (by decide) rfl ?_
      repeat walk_at "wk"
      refine part_c W F F' (by omega) j.2.2.2 fun d H2 hd k2 hp2 => ⟨by rw [List.length_append]; exact congrArg (· + 1) j.1, fun x h => ?_, j.2.2.1.trans k2, hp2⟩
      rcases List.mem_append.mp h with h | h
      · exact j.2.1 x h
      · exact ⟨d, hd, List.mem_singleton.mp h⟩
    · refine L_nd fun nd3 => ?_
      have dp3 := j3.2.2.2.nePen nd3
      repeat walk_at "wk"
      refine hK D D3 ys ys3 _ (by omega) (by omega) j.2.1 j3.2.1 (((kk.trans k3).trans j3.2.2.1).cons _) ((j3.2.2.2.cons _).le (by omega)) (.tail _ (j3.2.2.1 _ (k3 _ kD dp) dp)) (.head _) dp dp3
  · have hys : ys.length ≤ 5 := by omega
    have hD2 : Has H2 D ys := .inl kD
    repeat walk_at "wk"
    refine fun po => ?_
    refine S_nd fun nd4 => ?_
    have dpo := hp2.nePen nd4
    skip
    repeat walk_at "wk"
    refine V_fn W P F rfl rfl (by decide) rfl ?_
    repeat walk_at "wk"
    refine draw_c W F (by decide) (by omega) (hp2.cons _) fun d3 H3 hd3 k3 hp3 => ⟨d3, rfl, by omega, ?_⟩
    refine forUp (.loc rfl) (fun k V' H' => Vars.at_ V' "pen" (.ref pen) ∧ Vars.at_ V' "one" (.ref D) ∧ (∃ po lo, Vars.at_ V' "other" (.ref po) ∧ (po, .lst lo) ∈ H' ∧ lo.length ≤ 5 + k ∧ Parts lo ∧ po ≠ pen) ∧ (D, .lst ys) ∈ H' ∧ Kept pen H H' ∧ Pen H' pen q cells (b + 20 + 3 * k)) ?_ ?_ ?_
    · refine ⟨rfl, rfl, ⟨po, ys, rfl, k3 _ (.head _) dpo, by omega, j.2.1, dpo⟩, k3 _ (.tail _ kD) dp, kk.trans fun e h q => k3 e (.tail _ h) q, hp3.le (by omega)⟩
    · rintro k V' H4 hk ⟨v1, v2, ⟨po, lo, v3, ho, hlo, hpa, hpo⟩, hD, kk4, hp4⟩
      repeat walk_at "wk"
      refine V_fn W P F rfl rfl (by decide) rfl ?_
      repeat walk_at "wk"
      refine draw_c W F (by omega) (by omega) hp4 fun ds H5 hds k5 hp5 => ?_
      have ho5 := k5 _ ho hpo
      have hD5 := k5 _ hD dp
      repeat walk_at "wk"
      refine V_fn W P F rfl rfl (by decide) rfl ?_
      repeat walk_at "wk"
      refine draw_c W F (by decide) (by omega) hp5 fun d6 H6 hd6 k6 hp6 => ?_
      have ho6 := k6 _ ho5 hpo
      have hD6 := k6 _ hD5 dp
      repeat walk_at "wk"
      refine dc_ (fun h => ?_) (fun h => ?_)
      · repeat walk_at "wk"
        refine fun p1 => V_nd fun nd1 => ?_
        have np1 := hp6.nePen nd1
        repeat walk_at "wk"
        refine V_fn W P F' rfl rfl (by decide) rfl ?_
        repeat walk_at "wk"
        refine part_c W F F' (by omega) (hp6.cons _) fun dx H7 hdx k7 hp7 => ?_
        have ho7 := k7 _ (.tail _ ho6) hpo
        have hD7 := k7 _ (.tail _ hD6) dp
        have h17 := k7 _ (.head _) np1
        repeat walk_at "wk"
        refine fun p2 => ?_
        refine O_addL (.tail _ h17) (.head _) (by walk_at "lt") fun p3 => ?_
        repeat walk_at "wk"
        refine fun p4 => ?_
        refine O_addL (.tail _ (.head _)) (.head _) (by walk_at "lt") fun p5 => S_nd fun nd5 => ?_
        repeat walk_at "wk"
        have kz : Kept pen H H7 := kk4.trans (k5.trans (k6.trans fun e h q => k7 e (.tail _ h) q))
        refine .here ⟨v1, v2, ⟨p5, _, rfl, .head _, ?_, ?_, ?_⟩, ?_, ?_, ?_⟩
        · simp only [List.length_append, List.length_take, List.length_drop, List.length_cons, List.length_nil]; omega
        · intro x hx
          rcases List.mem_append.mp hx with hx | hx
          · rcases List.mem_append.mp hx with hx | hx
            · exact hpa x (List.mem_of_mem_take hx)
            · exact ⟨dx, hdx, List.mem_singleton.mp hx⟩
          · exact hpa x (List.mem_of_mem_drop hx)
        · exact Pen.nePen ((((hp7.cons _).cons _).cons _)) nd5
        · exact .tail _ (.tail _ (.tail _ (.tail _ hD7)))
        · exact ((((kz.cons _).cons _).cons _).cons _)
        · exact ((((hp7.cons _).cons _).cons _).cons _).le (by omega)
      · repeat walk_at "wk"
        refine fun p1 => ?_
        repeat walk_at "wk"
        refine fun p2 => ?_
        refine O_addL (.tail _ (.head _)) (.head _) (by simp only [List.length_take, List.length_drop]; omega) fun p3 => S_nd fun nd5 => ?_
        repeat walk_at "wk"
        have kz : Kept pen H H6 := kk4.trans (k5.trans k6)
        refine .here ⟨v1, v2, ⟨p3, _, rfl, .head _, ?_, ?_, ?_⟩, ?_, ?_, ?_⟩
        · simp only [List.length_append, List.length_take, List.length_drop]; omega
        · intro x hx
          rcases List.mem_append.mp hx with hx | hx
          · exact hpa x (List.mem_of_mem_take hx)
          · exact hpa x (List.mem_of_mem_drop hx)
        · exact Pen.nePen ((hp6.cons _).cons _) nd5
        · exact .tail _ (.tail _ (.tail _ hD6))
        · exact ((kz.cons _).cons _).cons _
        · exact (((hp6.cons _).cons _).cons _).le (by omega)
    · rintro V' H4 ⟨v1, v2, ⟨po, lo, v3, ho, hlo, hpa, hpo⟩, hD, kk4, hp4⟩
      repeat walk_at "wk"
      exact hK D po ys lo _ (by omega) (by omega) j.2.1 hpa kk4 (hp4.le (by omega)) hD ho dp hpo
end

open Classical in
noncomputable def stepG (r : List AV) (b : AV) : List AV :=
  match r with
  | [] => []
  | a :: t => if a = b then t else a :: t
noncomputable def sel : Nat → List AV → List AV
  | _, [] => []
  | c, a :: l => if c % 2 = 1 then a :: sel (c / 2) l else sel (c / 2) l
open Classical in
noncomputable def mostUp (x y : List AV) : Nat → Nat
  | 0 => 0
  | c + 1 => if y.foldl stepG (sel c x) = [] then max (mostUp x y c) (sel c x).length else mostUp x y c
noncomputable def most (x y : List AV) : Nat := mostUp x y (2 ^ x.length)
theorem sel_snoc (c : Nat) (l : List AV) (a : AV) : sel c (l ++ [a]) = sel c l ++ (if c / 2 ^ l.length % 2 = 1 then [a] else []) := by
  induction l generalizing c with
  | nil => simp only [List.nil_append, sel, List.length_nil, Nat.pow_zero, Nat.div_one]
  | cons b l ih =>
    have e : c / 2 ^ (l.length + 1) = c / 2 / 2 ^ l.length := by rw [Nat.pow_succ', Nat.div_div_eq_div_mul]
    rw [List.cons_append, sel, sel, ih, List.length_cons, e]
    split <;> simp
theorem sel_len (c : Nat) (l : List AV) : (sel c l).length ≤ l.length := by
  induction l generalizing c with
  | nil => exact Nat.le_refl _
  | cons b l ih =>
    have := ih (c / 2)
    rw [sel]; split <;> simp only [List.length_cons] <;> omega
theorem sel_sub (c : Nat) (l : List AV) : (sel c l).Sublist l := by
  induction l generalizing c with
  | nil => exact .slnil
  | cons b l ih =>
    rw [sel]; split
    · exact (ih _).cons_cons b
    · exact (ih _).cons b
section
variable {prog : Program} {w : World} {B : Heap} {n : Nat} {mg mb : Str → Option Value}
theorem AV.ok_int (n : Nat) (i : Int) : AV.ok n (.int i) = true := by cases n <;> simp [AV.ok]
theorem AV.ok_none (n : Nat) : AV.ok n .none = true := by cases n <;> simp [AV.ok]
theorem AV.ok_str (n : Nat) (x : Str) : AV.ok n (.str x) = PyData.strOk x := by cases n <;> simp [AV.ok]
theorem strOk_of (x : Str) (l : List Nat) (e : x.cps.toList = l) (h : l.all (fun c => decide (c < 1114112)) = true) : PyData.strOk x = true := by
  show x.cps.all _ = true
  rw [← Array.all_toList, e]; exact h
theorem AV.ok_s {n : Nat} {x : Str} (l : List Nat) (e : x.cps.toList = l) (h : l.all (fun c => decide (c < 1114112)) = true) : AV.ok n (.str x) = true := (AV.ok_str n x).trans (strOk_of x l e h)
theorem AV.ok_cons {n : Nat} {a : AV} {l : List AV} (h : AV.ok n a = true) (k : AV.ok (n + 1) (.tup l) = true) : AV.ok (n + 1) (.tup (a :: l)) = true := by
  rw [AV.ok_tup] at k ⊢; rw [List.all_cons, h, k]; rfl
theorem AV.ok_nil {n : Nat} : AV.ok (n + 1) (.tup []) = true := by rw [AV.ok_tup]; rfl
theorem ok_0 {n : Nat} : AV.ok (n + 2) (prt 0) = true := AV.ok_cons (AV.ok_s _ rfl (by decide)) (AV.ok_cons (AV.ok_int _ _) AV.ok_nil)
theorem ok_1 {n : Nat} : AV.ok (n + 2) (prt 1) = true := AV.ok_cons (AV.ok_s _ rfl (by decide)) (AV.ok_cons (AV.ok_s _ rfl (by decide)) AV.ok_nil)
theorem ok_2 {n : Nat} : AV.ok (n + 2) (prt 2) = true := AV.ok_cons (AV.ok_s _ rfl (by decide)) (AV.ok_cons (AV.ok_cons (AV.ok_s _ rfl (by decide)) (AV.ok_cons (AV.ok_int _ _) AV.ok_nil)) AV.ok_nil)
theorem ok_3 {n : Nat} : AV.ok (n + 2) (prt 3) = true := AV.ok_cons (AV.ok_s _ rfl (by decide)) (AV.ok_cons (AV.ok_cons (AV.ok_s _ rfl (by decide)) (AV.ok_cons (AV.ok_int _ _) AV.ok_nil)) AV.ok_nil)
theorem Parts.ok {l : List AV} (h : Parts l) : ∀ a ∈ l, AV.ok 4 a = true := fun a ha => by
  obtain ⟨d, hd, rfl⟩ := h a ha
  match d, hd with
  | 0, _ => exact ok_0
  | 1, _ => exact ok_1
  | 2, _ => exact ok_2
  | 3, _ => exact ok_3
  | d + 4, h => omega
theorem O_eqc {a b : AV} {H : AH} {K : AV → AH → Prop} (m : Nat) (ha : AV.ok m a = true) (hb : AV.ok m b = true) (hm : m ≤ 8) (h1 : a = b → K (.bool true) H) (h2 : a ≠ b → K (.bool false) H) : opV prog w B n [a, b] H (cmp .Eq) K :=
  O_eq m ha hb hm fun t e => by
    cases t with
    | true => exact h1 (e.mp rfl)
    | false => exact h2 fun q => absurd (e.mpr q) (by decide)
theorem O_nec {a b : AV} {H : AH} {K : AV → AH → Prop} (m : Nat) (ha : AV.ok m a = true) (hb : AV.ok m b = true) (hm : m ≤ 8) (h1 : a ≠ b → K (.bool true) H) (h2 : a = b → K (.bool false) H) : opV prog w B n [a, b] H (cmp .NotEq) K :=
  O_ne m ha hb hm fun t e => by
    cases t with
    | true => exact h1 (e.mp rfl)
    | false => exact h2 (Classical.byContradiction fun q => absurd (e.mpr q) (by decide))
theorem stepG_hit {ys : List AV} {m : Nat} {z : AV} (hm : m < ys.length) (e : ys[m] = z) : stepG (ys.drop m) z = ys.drop (m + 1) := by
  rw [List.drop_eq_getElem_cons hm, stepG, if_pos e]
theorem stepG_miss {ys : List AV} {m : Nat} {z : AV} (hm : m < ys.length) (e : ys[m] ≠ z) : stepG (ys.drop m) z = ys.drop m := by
  rw [List.drop_eq_getElem_cons hm, stepG, if_neg e]
theorem stepG_end {ys : List AV} {m : Nat} {z : AV} (hm : ¬ m < ys.length) : stepG (ys.drop m) z = ys.drop m := by
  rw [List.drop_eq_nil_of_le (by omega), stepG]
theorem most_c {a : Addr} {H : AH} {p q : Addr} {x y : List AV} {K : AV → AH → Prop} (W : Wd B mg mb) (F : Fn B mg 13 a) (hx : Has H p x) (hy : Has H q y) (lx : x.length ≤ 5) (ly : y.length ≤ 8) (ox : Parts x) (oy : Parts y)
    (hK : ∀ H', (∀ e ∈ H, e ∈ H') → K (.int (most x y)) H') :
    opV prog w B (n + 1) [.ref p, .ref q] H (fun vs => call (.ref a) vs) K := by
  refine enter W F ⟨rfl, rfl, rfl⟩ (names := ["one", "other"]) (by decide) rfl (fun _ _ _ _ _ _ _ _ => BindsTo.of_eq rfl) (fun _ => ⟨.inr ⟨rfl, rfl⟩, .inl rfl, trivial⟩) fun L cdv P => ?_
  dsimp only [List.zip_cons_cons, List.zip_nil_left]
  walk_at "wb"
  repeat walk_at "wk"
  skip
  repeat walk_at "wk"
  repeat walk_at "wk"
  refine O_pow (k := x.length) ?_ (Nat.lt_of_lt_of_le (by decide : Int.natAbs 2 < 2 ^ 2) (Nat.pow_le_pow_right (by decide) (by decide))) (by omega)
  refine ⟨2 ^ x.length, congrArg AV.int (by rw [Int.natCast_pow]; rfl), Nat.le_trans (Nat.pow_le_pow_right (by decide) lx) (by decide), ?_⟩
  refine forUp (.cell rfl rfl) (fun k V' H' => Vars.at_ V' "one" (.ref p) ∧ Vars.at_ V' "other" (.ref q) ∧ Vars.at_ V' "most" (.int (mostUp x y k)) ∧ (∀ e ∈ H, e ∈ H')) ⟨rfl, rfl, rfl, fun e h => h⟩ ?_ ?_
  · rintro k V' H1 hk ⟨v1, v2, v3, kk⟩
    have hx1 : Has H1 p x := hx.imp (kk _) (kk _)
    have hy1 : Has H1 q y := hy.imp (kk _) (kk _)
    refine S_assignComp P rfl rfl (by decide) rfl (by decide) rfl (fun _ => rfl) (V' := [("one", .ref p), ("code", .int k)]) (fun C => sees P _ rfl rfl rfl rfl ⟨rfl, rfl, trivial⟩ ⟨⟨v1, rfl, rfl⟩, ⟨rfl, rfl, rfl⟩, trivial⟩) ?_
    repeat walk_at "wk"
    repeat walk_at "wk"
    refine ⟨by omega, ?_⟩
    refine compUp P rfl (by omega) (fun i ys H' => ys = sel k (x.take i) ∧ (∀ e ∈ H1, e ∈ H')) ⟨by rw [List.take_zero, sel], fun e h => h⟩ (fun C i ys H' P' hi j => ?_) (fun ys H' j D => ?_)
    · obtain ⟨e1, e2⟩ := j
      have hx2 : Has H' p x := hx1.imp (e2 _) (e2 _)
      refine turn1i rfl ?_
      repeat walk_at "wk"
      refine O_pow (k := i) ?_ (Nat.lt_of_lt_of_le (by decide : Int.natAbs 2 < 2 ^ 2) (Nat.pow_le_pow_right (by decide) (by decide))) (by omega)
      obtain ⟨u, hu, hu0, hu1, hu2⟩ : ∃ u : Nat, (2 : Int) ^ i = (u : Int) ∧ 0 < u ∧ u ≤ 32 ∧ u = 2 ^ i := ⟨2 ^ i, by rw [Int.natCast_pow]; rfl, Nat.pow_pos (by decide), Nat.le_trans (Nat.pow_le_pow_right (by decide) (by omega : i ≤ 5)) (by decide), rfl⟩
      rw [hu]
      repeat walk_at "wk"
      have hs : sel k (x.take (i + 1)) = sel k (x.take i) ++ (if k / 2 ^ i % 2 = 1 then [x[i]] else []) := by
        have := sel_snoc k (x.take i) x[i]
        rw [List.take_append_getElem, List.length_take, Nat.min_eq_left (by omega)] at this
        exact this
      refine dc_ (fun h => ?_) (fun h => ?_)
      · repeat walk_at "wk"
        refine G_ix hx2 (by omega) (by omega) (x := x[i]) (by rw [Int.toNat_natCast]; exact List.getElem?_eq_getElem hi) (fun _ _ => rfl) ?_
        refine ⟨?_, e2⟩
        rw [hs, e1, if_pos]
        rw [← hu2]; omega
      · refine ⟨?_, e2⟩
        rw [hs, e1, if_neg, List.append_nil]
        rw [← hu2]; omega
    · obtain ⟨e1, e2⟩ := j
      rw [List.take_length] at e1
      have lys : ys.length ≤ 5 := by rw [e1]; exact Nat.le_trans (sel_len k x) lx
      have oys : Parts ys := fun z hz => ox z ((sel_sub k x).subset (e1 ▸ hz))
      have kk1 : ∀ e ∈ H, e ∈ H' := fun e h => e2 e (kk e h)
      repeat walk_at "wk"
      skip
      refine R_val ?_
      repeat walk_at "wk"
      refine forLst (.loc rfl) (l := y) ((hy.imp (kk1 _) (kk1 _)).imp (.tail _) (.tail _)) (fun i V' H' => Vars.at_ V' "one" (.ref p) ∧ Vars.at_ V' "other" (.ref q) ∧ Vars.at_ V' "most" (.int (mostUp x y k)) ∧ Vars.at_ V' "row" (.ref D) ∧ (D, .lst ys) ∈ H' ∧ (∀ e ∈ H, e ∈ H') ∧
        ∃ at' : Nat, Vars.at_ V' "at" (.int at') ∧ at' ≤ ys.length ∧ (y.take i).foldl stepG ys = ys.drop at') ?_ ?_ ?_ ?_
      · exact ⟨v1, v2, v3, rfl, .head _, fun e h => .tail _ (kk1 e h), 0, rfl, Nat.zero_le _, rfl⟩
      · rintro i V' H' ⟨_, _, _, _, _, k6, _⟩
        exact hy.imp (k6 _) (k6 _)
      · rintro i z V' H2 hz ⟨w1, w2, w3, w4, w5, k6, m, w6, w7, w8⟩
        have hz' : z ∈ y := List.mem_of_getElem? hz
        have hs : (y.take (i + 1)).foldl stepG ys = stepG (ys.drop m) z := by
          rw [List.take_add_one, hz, List.foldl_append, w8]; rfl
        repeat walk_at "wk"
        refine dc_ (fun h => ?_) (fun h => ?_)
        · have hm : m < ys.length := by omega
          repeat walk_at "wk"
          refine G_ix (.inl w5) (by omega) (by omega) (x := ys[m]) (by rw [Int.toNat_natCast]; exact List.getElem?_eq_getElem hm) (fun _ _ => rfl) ?_
          repeat walk_at "wk"
          refine O_eqc 4 (oys.ok _ (List.getElem_mem hm)) (oy.ok _ hz') (by decide) (fun e => ?_) (fun e => ?_)
          · repeat walk_at "wk"
            exact .here ⟨w1, w2, w3, w4, w5, k6, m + 1, rfl, hm, hs.trans (stepG_hit hm e)⟩
          · repeat walk_at "wk"
            exact .here ⟨w1, w2, w3, w4, w5, k6, m, w6, w7, hs.trans (stepG_miss hm e)⟩
        · repeat walk_at "wk"
          exact .here ⟨w1, w2, w3, w4, w5, k6, m, w6, w7, hs.trans (stepG_end (by omega))⟩
      · rintro V' H2 ⟨w1, w2, w3, w4, w5, k6, m, w6, w7, w8⟩
        rw [List.take_length] at w8
        repeat walk_at "wk"
        refine dc_ (fun h => ?_) (fun h => ?_)
        · have e : y.foldl stepG (sel k x) = [] := by rw [← e1, w8, List.drop_eq_nil_of_le (by omega)]
          have e' : ((max (mostUp x y k : Int) (ys.length : Int) : Int)) = ((mostUp x y (k + 1) : Nat) : Int) := by rw [mostUp, if_pos e, ← e1]; omega
          repeat walk_at "wk"
          exact .here ⟨w1, w2, e' ▸ rfl, k6⟩
        · have e : ¬ y.foldl stepG (sel k x) = [] := fun q => by
            rw [← e1, w8, List.drop_eq_nil_iff] at q
            omega
          have e' : mostUp x y (k + 1) = mostUp x y k := by rw [mostUp, if_neg e]
          repeat walk_at "wk"
          exact .here ⟨w1, w2, e' ▸ w3, k6⟩
  · rintro V' H1 ⟨v1, v2, v3, kk⟩
    repeat walk_at "wk"
    exact hK _ kk
end

open Classical in
noncomputable def lc : List AV → List AV → Nat
  | [], _ => 0
  | _ :: _, [] => 0
  | a :: x, b :: y => if a = b then lc x y + 1 else max (lc x (b :: y)) (lc (a :: x) y)
termination_by x y => x.length + y.length
open Classical in
noncomputable def pr : Nat → Nat → List AV → List AV → List (Nat × Nat)
  | _, _, [], _ => []
  | _, _, _ :: _, [] => []
  | i, j, a :: x, b :: y => if a = b then (i, j) :: pr (i + 1) (j + 1) x y else if lc (a :: x) y ≤ lc x (b :: y) then pr (i + 1) j x (b :: y) else pr i (j + 1) (a :: x) y
termination_by _ _ x y => x.length + y.length
noncomputable def pt (p : Nat × Nat) : AV := .tup [.int p.1, .int p.2]
noncomputable def row (m : Nat) (T : Nat → Nat) : List AV := (List.range m).map fun j => .int (T j)
theorem row_len (m : Nat) (T : Nat → Nat) : (row m T).length = m := by rw [row, List.length_map, List.length_range]
theorem row_get {m j : Nat} {T : Nat → Nat} (h : j < m) : (row m T)[j]? = some (.int (T j)) := by
  rw [row, List.getElem?_map, List.getElem?_range h]; rfl
theorem row_set {m j v : Nat} {T : Nat → Nat} : (row m T).set j (.int v) = row m (fun i => if i = j then v else T i) := by
  apply List.ext_getElem?
  intro i
  rw [List.getElem?_set]
  by_cases h : i < m
  · rw [row_get h, row_get h, row_len]
    by_cases q : j = i
    · subst q; rw [if_pos rfl, if_pos h, if_pos rfl]
    · rw [if_neg q, if_neg (fun z => q z.symm)]
  · rw [List.getElem?_eq_none (by rw [row_len]; omega), List.getElem?_eq_none (by rw [row_len]; omega), row_len]
    split
    · rw [if_neg (by omega)]
    · rfl
theorem row_zero (m : Nat) : List.replicate m (AV.int 0) = row m (fun _ => 0) := by
  apply List.ext_getElem?
  intro i
  by_cases h : i < m
  · rw [row_get h, List.getElem?_replicate, if_pos h]; rfl
  · rw [List.getElem?_eq_none (l := row _ _) (by rw [row_len]; omega), List.getElem?_eq_none (by rw [List.length_replicate]; omega)]
theorem lc_nil (x : List AV) : lc x [] = 0 := by cases x <;> rw [lc]
theorem lc_nil' (x : List AV) : lc [] x = 0 := by cases x <;> rw [lc]
section
variable {prog : Program} {w : World} {B : Heap} {n : Nat} {mg mb : Str → Option Value}
theorem V_ndK {env : Env} {V : Vars} {H : AH} {t : Sem Value} {K : AV → AH → Prop} (h : wpV prog w B n env V H t (fun a H' => (H'.map (·.1)).Nodup → K a H')) : wpV prog w B n env V H t K := fun A s r i =>
  wpAny_mono (h A s r i) (fun v s' ⟨a, H', k1, k2, k3⟩ => ⟨a, H', k1 k3.nd, k2, k3⟩) fun _ _ e => e
theorem G_at {value slice : Expr} {p : Addr} {l : List AV} {k : Int} {H : AH} {K : AV → AH → Prop} (hp : Has H p l) (i : Nat) (hk : k = (i : Int)) (h : i < l.length) (hz : i < 1000000) (hs : ∀ o i, subscripted slice false o i = operate [o, i] (getItem o i)) (hK : K l[i] H) :
    getP prog w B n value slice (.ref p) (.int k) H K := G_list hp hk (List.getElem?_eq_getElem h) hs hz hK
open Classical in
theorem lc_step {x y : List AV} {i j : Nat} (hi : i < x.length) (hj : j < y.length) : lc (x.drop i) (y.drop j) = (if x[i] = y[j] then lc (x.drop (i + 1)) (y.drop (j + 1)) + 1 else max (lc (x.drop (i + 1)) (y.drop j)) (lc (x.drop i) (y.drop (j + 1)))) := by
  rw [List.drop_eq_getElem_cons hi, List.drop_eq_getElem_cons hj, lc]
open Classical in
theorem pr_step {x y : List AV} {i j : Nat} (hi : i < x.length) (hj : j < y.length) : pr i j (x.drop i) (y.drop j) = (if x[i] = y[j] then (i, j) :: pr (i + 1) (j + 1) (x.drop (i + 1)) (y.drop (j + 1)) else
    if lc (x.drop i) (y.drop (j + 1)) ≤ lc (x.drop (i + 1)) (y.drop j) then pr (i + 1) j (x.drop (i + 1)) (y.drop j) else pr i (j + 1) (x.drop i) (y.drop (j + 1))) := by
  rw [List.drop_eq_getElem_cons hi, List.drop_eq_getElem_cons hj, pr]
theorem pr_nil (i j : Nat) (x : List AV) : pr i j x [] = [] := by cases x <;> rw [pr]
theorem pr_nil' (i j : Nat) (x : List AV) : pr i j [] x = [] := by cases x <;> rw [pr]
structure Tab (H : AH) (D : Addr) (rs : List Addr) (m : Nat) (T : Nat → Nat → Nat) : Prop where
  d : (D, .lst (rs.map .ref)) ∈ H
  r : ∀ i r, rs[i]? = some r → Has H r (row m (T i))
noncomputable def tset (T : Nat → Nat → Nat) (i j v : Nat) : Nat → Nat → Nat := fun a b => if a = i ∧ b = j then v else T a b
theorem tset_in (T : Nat → Nat → Nat) (i j v : Nat) : tset T i j v i j = v := if_pos ⟨rfl, rfl⟩
theorem tset_out {T : Nat → Nat → Nat} {i j v a b : Nat} (h : a ≠ i ∨ b ≠ j) : tset T i j v a b = T a b := if_neg (fun q => h.elim (fun z => z q.1) fun z => z q.2)
theorem Tab.set {H : AH} {D r : Addr} {rs : List Addr} {m i j v : Nat} {T : Nat → Nat → Nat} {K : AH → Prop} (t : Tab H D rs m T) (nd : rs.Nodup) (hD : D ∉ rs) (hr : rs[i]? = some r) (hj : j < m) (hm : m ≤ 1000)
    (h : ∀ H', Tab H' D rs m (tset T i j v) → (∀ e ∈ H, e.1 ∉ rs → e ∈ H') → K H') : setP prog w B n (.ref r) (.int j) (.int v) H K := by
  have hmem : r ∈ rs := List.mem_of_getElem? hr
  obtain ⟨o, ho, hh⟩ : ∃ o, (r, o) ∈ H ∧ (o = .lst (row m (T i)) ∨ o = .arr (row m (T i))) := by
    rcases t.r i r hr with h | h
    · exact ⟨_, h, .inl rfl⟩
    · exact ⟨_, h, .inr rfl⟩
  obtain ⟨H', u⟩ := Upd.of_mem (.arr ((row m (T i)).set j (.int v))) ho
  refine T_list u hh rfl (by rw [row_len]; exact hj) (by omega) (h H' ⟨u.keep t.d (fun q => hD (q ▸ hmem)), fun a s hs => ?_⟩ fun e he q => u.keep (q := e.1) (x := e.2) he (fun z => q (z ▸ hmem)))
  by_cases q : a = i
  · subst q
    rw [hr] at hs; cases hs
    refine .inr ?_
    have e : (fun b => if b = j then v else T a b) = tset T a j v a := by funext b; unfold tset; simp
    have := u.mem'
    rw [row_set, e] at this
    exact this
  · have e : tset T i j v a = T a := by funext b; exact tset_out (.inl q)
    rw [e]
    refine u.has (t.r a s hs) fun z => q ?_
    subst z
    have h1 := (List.getElem?_eq_some_iff.mp hs)
    have h2 := (List.getElem?_eq_some_iff.mp hr)
    obtain ⟨b1, c1⟩ := h1; obtain ⟨b2, c2⟩ := h2
    exact (List.getElem_inj nd).mp (c1.trans c2.symm)
theorem Tab.keep {H H' : AH} {D pp : Addr} {rs : List Addr} {m : Nat} {T : Nat → Nat → Nat} (t : Tab H D rs m T) (k : Kept pp H H') (hD : D ≠ pp) (hr : pp ∉ rs) : Tab H' D rs m T :=
  ⟨k _ t.d hD, fun i r h => k.has (t.r i r h) fun q => hr (q ▸ List.mem_of_getElem? h)⟩
theorem rows_c {a : Addr} {H : AH} {p q : Addr} {x y : List AV} {K : AV → AH → Prop} (W : Wd B mg mb) (F : Fn B mg 2 a) (hx : Has H p x) (hy : Has H q y) (lx : x.length ≤ 100) (ly : y.length ≤ 100) (ox : ∀ a ∈ x, AV.ok 4 a = true) (oy : ∀ a ∈ y, AV.ok 4 a = true)
    (hK : ∀ r H', (∀ e ∈ H, e ∈ H') → (r, .lst ((pr 0 0 x y).map pt)) ∈ H' → K (.ref r) H') :
    opV prog w B (n + 1) [.ref p, .ref q] H (fun vs => call (.ref a) vs) K := by
  refine enter W F ⟨rfl, rfl, rfl⟩ (names := ["one", "other"]) (by decide) rfl (fun _ _ _ _ _ _ _ _ => BindsTo.of_eq rfl) (fun _ => ⟨.inl rfl, .inr ⟨rfl, rfl⟩, trivial⟩) fun L cdv P => ?_
  dsimp only [List.zip_cons_cons, List.zip_nil_left]
  walk_at "wb"
  refine S_assignComp P rfl rfl (by decide) rfl (by decide) rfl (fun _ => rfl) (V' := [("other", .ref q)]) (fun C => sees P _ rfl rfl rfl rfl ⟨rfl, trivial⟩ ⟨⟨rfl, rfl, rfl⟩, trivial⟩) ?_
  skip
  repeat walk_at "wk"
  refine ⟨by walk_at "lt", ?_⟩
  refine compUp P rfl (by walk_at "lt") (fun i ys H' => ∃ rs : List Addr, ys = rs.map .ref ∧ rs.length = i ∧ rs.Nodup ∧ (∀ e ∈ H, e ∈ H') ∧ ∀ r ∈ rs, (r, .lst (row (y.length + 1) (fun _ => 0))) ∈ H' ∧ ∀ e ∈ H, e.1 ≠ r) ⟨[], rfl, rfl, List.nodup_nil, fun e h => h, fun r h => absurd h List.not_mem_nil⟩ (fun C i ys H' P' hi j => ?_) (fun ys H' j D => ?_)
  · obtain ⟨rs, e1, e2, e3, e4, e5⟩ := j
    have hy1 : Has H' q y := hy.imp (e4 _) (e4 _)
    refine turn1 rfl (V_ndK ?_)
    repeat walk_at "wk"
    refine fun z => ?_
    repeat walk_at "wk"
    refine O_rep (k := y.length + 1) (.head _) (by omega) ?_
    intro r nd
    rw [List.map_cons, List.map_cons, List.nodup_cons, List.nodup_cons] at nd
    obtain ⟨nd1, nd2, _⟩ := nd
    have nr : ∀ e ∈ H', e.1 ≠ r := fun e he q => nd1 (.tail _ (q ▸ List.mem_map.mpr ⟨e, he, rfl⟩))
    rw [row_zero]
    refine ⟨rs ++ [r], by rw [e1, List.map_append]; rfl, by rw [List.length_append, e2]; rfl, List.nodup_append.mpr ⟨e3, List.nodup_cons.mpr ⟨List.not_mem_nil, List.nodup_nil⟩, fun u hu v hv q => ?_⟩, fun e h => .tail _ (.tail _ (e4 e h)), fun u hu => ?_⟩
    · subst q
      exact nr _ (e5 u hu).1 (List.mem_singleton.mp hv)
    · rcases List.mem_append.mp hu with hu | hu
      · exact ⟨.tail _ (.tail _ (e5 u hu).1), (e5 u hu).2⟩
      · rw [List.mem_singleton.mp hu]
        exact ⟨.head _, fun e he => nr e (e4 e he)⟩
  · obtain ⟨rs, e1, e2, e3, e4, e5⟩ := j
    subst e1
    refine S_nd fun nd => ?_
    rw [List.map_cons, List.nodup_cons] at nd
    have nD : ∀ e ∈ H', e.1 ≠ D := fun e he q => nd.1 (q ▸ List.mem_map.mpr ⟨e, he, rfl⟩)
    have hDr : D ∉ rs := fun q => nD _ (e5 D q).1 rfl
    have kR : ∀ e ∈ H, e.1 ∉ rs := fun e he q => (e5 _ q).2 e he rfl
    have kD : ∀ e ∈ H, e.1 ≠ D := fun e he => nD e (e4 e he)
    have hx1 : Has ((D, .lst (rs.map .ref)) :: H') p x := (hx.imp (e4 _) (e4 _)).imp (.tail _) (.tail _)
    skip
    skip
    repeat walk_at "wk"
    refine ⟨by walk_at "lt", ?_⟩
    refine forDn (.loc rfl) (fun k V' H' => Vars.at_ V' "one" (.ref p) ∧ Vars.at_ V' "other" (.ref q) ∧ Vars.at_ V' "lengths" (.ref D) ∧ (∀ e ∈ H, e ∈ H') ∧ ∃ T, Tab H' D rs (y.length + 1) T ∧ (∀ i, T i y.length = 0) ∧ ∀ i, x.length - k ≤ i → i ≤ x.length → ∀ j, j ≤ y.length → T i j = lc (x.drop i) (y.drop j)) ?_ ?_ ?_
    · refine ⟨rfl, rfl, rfl, fun e h => .tail _ (e4 e h), fun _ _ => 0, ⟨.head _, fun i r hr => .inl (.tail _ (e5 r (List.mem_of_getElem? hr)).1)⟩, fun _ => rfl, fun i h1 h2 j _ => ?_⟩
      rw [List.drop_eq_nil_of_le (by omega), lc_nil']
    · rintro k V' H1 hk ⟨v1, v2, v3, kk, T, hT, hz, hI⟩
      have hy1 : Has H1 q y := hy.imp (kk _) (kk _)
      skip
      skip
      repeat walk_at "wk"
      refine ⟨by walk_at "lt", ?_⟩
      obtain ⟨i, hi⟩ : ∃ i, i + k + 1 = x.length := ⟨x.length - 1 - k, by omega⟩
      rw [show x.length - 1 - k = i from by omega]
      refine forDn (.loc rfl) (fun k' V' H' => Vars.at_ V' "one" (.ref p) ∧ Vars.at_ V' "other" (.ref q) ∧ Vars.at_ V' "lengths" (.ref D) ∧ Vars.at_ V' "left" (.int i) ∧ (∀ e ∈ H, e ∈ H') ∧ ∃ T, Tab H' D rs (y.length + 1) T ∧ (∀ i, T i y.length = 0) ∧ (∀ i, x.length - k ≤ i → i ≤ x.length → ∀ j, j ≤ y.length → T i j = lc (x.drop i) (y.drop j)) ∧
        ∀ j, y.length - k' ≤ j → j ≤ y.length → T i j = lc (x.drop i) (y.drop j)) ?_ ?_ ?_
      · refine ⟨v1, v2, v3, rfl, kk, T, hT, hz, hI, fun j h1 h2 => ?_⟩
        have : j = y.length := by omega
        subst this
        rw [hz, List.drop_eq_nil_of_le (Nat.le_refl _), lc_nil]
      · rintro k' V' H2 hk' ⟨v1, v2, v3, v4, kk, T, hT, hz, hI, hJ⟩
        obtain ⟨j, hj⟩ : ∃ j, j + k' + 1 = y.length := ⟨y.length - 1 - k', by omega⟩
        rw [show y.length - 1 - k' = j from by omega]
        have hx2 : Has H2 p x := hx.imp (kk _) (kk _)
        have hy2 : Has H2 q y := hy.imp (kk _) (kk _)
        have hD := hT.d
        have lI : i < x.length := by omega
        have lJ : j < y.length := by omega
        have gI : Hid (x.length - k ≤ i + 1) := (show x.length - k ≤ i + 1 by omega)
        have gJ : Hid (y.length - k' ≤ j + 1) := (show y.length - k' ≤ j + 1 by omega)
        have gK : ∀ z, y.length - (k' + 1) ≤ z → z ≠ j → y.length - k' ≤ z := fun z h1 h2 => by omega
        have gL : ∀ z, x.length - k ≤ z → z ≠ i := fun z h1 => by omega
        have Hi : Hid (i + k + 1 = x.length) := hi
        have Hj : Hid (j + k' + 1 = y.length) := hj
        clear hi hj
        obtain ⟨r, hr⟩ : ∃ r, rs[i]? = some r := ⟨_, List.getElem?_eq_getElem (by omega)⟩
        obtain ⟨r', hr'⟩ : ∃ r, rs[i + 1]? = some r := ⟨_, List.getElem?_eq_getElem (by omega)⟩
        have mr : (rs.map AV.ref)[i]? = some (.ref r) := by rw [List.getElem?_map, hr]; rfl
        have mr' : (rs.map AV.ref)[i + 1]? = some (.ref r') := by rw [List.getElem?_map, hr']; rfl
        have h1 := hT.r i r hr
        have h2 := hT.r (i + 1) r' hr'
        have step : ∀ (v : Nat) (V' : Vars) (K' : AF → Vars → AH → Prop), v = lc (x.drop i) (y.drop j) → (∀ H3, (∀ e ∈ H, e ∈ H3) → (∃ T, Tab H3 D rs (y.length + 1) T ∧ (∀ i, T i y.length = 0) ∧ (∀ i, x.length - k ≤ i → i ≤ x.length → ∀ j, j ≤ y.length → T i j = lc (x.drop i) (y.drop j)) ∧
          ∀ j, y.length - (k' + 1) ≤ j → j ≤ y.length → T i j = lc (x.drop i) (y.drop j)) → wpS prog w B n (senv 2 L a cdv) V' H3 [] K') → setP prog w B n (.ref r) (.int j) (.int v) H2 (fun H4 => wpS prog w B n (senv 2 L a cdv) V' H4 [] K') := by
          intro v V' K' hv hk
          refine hT.set e3 hDr hr (by omega) (by omega) fun H3 t3 k3 => hk H3 (fun e he => k3 e (kk e he) (kR e he)) ⟨_, t3, fun i' => ?_, fun i' h1 h2 j' h3 => ?_, fun j' h1 h2 => ?_⟩
          · rw [tset_out (.inr (by omega))]; exact hz i'
          · rw [tset_out (.inl (gL i' h1))]; exact hI i' h1 h2 j' h3
          · by_cases q : j' = j
            · subst q; rw [tset_in]; exact hv
            · rw [tset_out (.inr q)]; exact hJ j' (gK j' h1 q) h2
        repeat walk_at "wk"
        refine G_at hx2 i rfl lI (by walk_at "lt") (fun _ _ => rfl) ?_
        repeat walk_at "wk"
        refine G_at hy2 j rfl lJ (by walk_at "lt") (fun _ _ => rfl) ?_
        repeat walk_at "wk"
        refine O_eqc 4 (ox _ (List.getElem_mem lI)) (oy _ (List.getElem_mem lJ)) (by decide) (fun e => ?_) (fun e => ?_)
        · repeat walk_at "wk"
          refine G_list (j := i + 1) (.inl hD) rfl mr' (fun _ _ => rfl) (by omega) ?_
          repeat walk_at "wk"
          refine G_list (j := j + 1) h2 rfl (row_get (by omega : j + 1 < _)) (fun _ _ => rfl) (by omega) ?_
          repeat walk_at "wk"
          refine G_list (.inl hD) rfl mr (fun _ _ => rfl) (by omega) ?_
          repeat walk_at "wk"
          refine step (T (i + 1) (j + 1) + 1) _ _ (by rw [lc_step lI lJ, if_pos e, hI (i + 1) gI lI (j + 1) lJ]) fun H3 k3 t3 => ?_
          repeat walk_at "wk"
          exact .here ⟨v1, v2, v3, v4, k3, t3⟩
        · repeat walk_at "wk"
          refine G_list (j := i + 1) (.inl hD) rfl mr' (fun _ _ => rfl) (by omega) ?_
          repeat walk_at "wk"
          refine G_list h2 rfl (row_get (by omega : j < _)) (fun _ _ => rfl) (by omega) ?_
          repeat walk_at "wk"
          refine G_list (.inl hD) rfl mr (fun _ _ => rfl) (by omega) ?_
          repeat walk_at "wk"
          refine G_list (j := j + 1) h1 rfl (row_get (by omega : j + 1 < _)) (fun _ _ => rfl) (by omega) ?_
          repeat walk_at "wk"
          refine G_list (.inl hD) rfl mr (fun _ _ => rfl) (by omega) ?_
          repeat walk_at "wk"
          have e' : max (T (i + 1) j : Int) (T i (j + 1) : Int) = ((max (T (i + 1) j) (T i (j + 1)) : Nat) : Int) := by omega
          rw [e']
          refine step _ _ _ (by rw [lc_step lI lJ, if_neg e, hI (i + 1) gI lI j (Nat.le_of_lt lJ), hJ (j + 1) gJ lJ]) fun H3 k3 t3 => ?_
          repeat walk_at "wk"
          exact .here ⟨v1, v2, v3, v4, k3, t3⟩
      · rintro V' H2 ⟨v1, v2, v3, v4, kk, T, hT, hz, hI, hJ⟩
        repeat walk_at "wk"
        refine .here ⟨v1, v2, v3, kk, T, hT, hz, fun i' h1 h2 j h3 => ?_⟩
        by_cases q : i' = i
        · subst q; exact hJ j (by omega) h3
        · exact hI i' (by omega) h2 j h3
    · rintro V' H1 ⟨v1, v2, v3, kk, T, hT, hz, hI⟩
      have hx2 : Has H1 p x := hx.imp (kk _) (kk _)
      have hy2 : Has H1 q y := hy.imp (kk _) (kk _)
      have hD := hT.d
      repeat walk_at "wk"
      refine fun pp => S_nd fun nd2 => ?_
      rw [List.map_cons, List.nodup_cons] at nd2
      have np : ∀ e ∈ H1, e.1 ≠ pp := fun e he q => nd2.1 (q ▸ List.mem_map.mpr ⟨e, he, rfl⟩)
      have nDp : D ≠ pp := np _ hT.d
      have nrp : pp ∉ rs := fun q => by
        obtain ⟨i, hi, e⟩ := List.mem_iff_getElem.mp q
        rcases hT.r i pp (by rw [List.getElem?_eq_getElem hi, e]) with h | h <;> exact np _ h rfl
      have kk0 := kk
      have kp : Kept pp H1 ((pp, .lst []) :: H1) := fun e h _ => .tail _ h
      repeat walk_at "wk"
      refine ⟨_, _, rfl, ?_⟩
      refine S_while (fun m V' H' => Vars.at_ V' "one" (.ref p) ∧ Vars.at_ V' "other" (.ref q) ∧ Vars.at_ V' "lengths" (.ref D) ∧ Vars.at_ V' "pairs" (.ref pp) ∧ (∀ e ∈ H, e ∈ H') ∧ Tab H' D rs (y.length + 1) T ∧ ∃ (i j : Nat) (acc : List (Nat × Nat)), Vars.at_ V' "left" (.int i) ∧ Vars.at_ V' "right" (.int j) ∧
        i ≤ x.length ∧ j ≤ y.length ∧ m + i + j = x.length + y.length ∧ (pp, .lst (acc.map pt)) ∈ H' ∧ pr 0 0 x y = acc ++ pr i j (x.drop i) (y.drop j) ∧ acc.length ≤ i) (x.length + y.length)
        ⟨v1, v2, v3, rfl, fun e h => .tail _ (kk e h), hT.keep kp nDp nrp, 0, 0, [], rfl, rfl, Nat.zero_le _, Nat.zero_le _, rfl, .head _, rfl, Nat.le_refl _⟩ ?_
      rintro m V' H2 ⟨v1, v2, v3, v4, kk, t2, i, j, acc, v5, v6, hi, hj, hm, hp2, hacc, la⟩
      have Hm : Hid (m + i + j = x.length + y.length) := hm
      clear hm
      have hx2 : Has H2 p x := hx.imp (kk _) (kk _)
      have hy2 : Has H2 q y := hy.imp (kk _) (kk _)
      have hD2 := t2.d
      repeat walk_at "wk"
      refine dc_ (fun lI => ?_) (fun lI => ?_)
      · repeat walk_at "wk"
        refine dc_ (fun lJ => ?_) (fun lJ => ?_)
        · have lI : i < x.length := by omega
          have lJ : j < y.length := by omega
          obtain ⟨r, hr⟩ : ∃ r, rs[i]? = some r := ⟨_, List.getElem?_eq_getElem (by omega)⟩
          obtain ⟨r', hr'⟩ : ∃ r, rs[i + 1]? = some r := ⟨_, List.getElem?_eq_getElem (by omega)⟩
          have mr : (rs.map AV.ref)[i]? = some (.ref r) := by rw [List.getElem?_map, hr]; rfl
          have mr' : (rs.map AV.ref)[i + 1]? = some (.ref r') := by rw [List.getElem?_map, hr']; rfl
          have h1 := t2.r i r hr
          have h2 := t2.r (i + 1) r' hr'
          rw [pr_step lI lJ] at hacc
          repeat walk_at "wk"
          refine G_at hx2 i rfl lI (by walk_at "lt") (fun _ _ => rfl) ?_
          repeat walk_at "wk"
          refine G_at hy2 j rfl lJ (by walk_at "lt") (fun _ _ => rfl) ?_
          repeat walk_at "wk"
          refine O_eqc 4 (ox _ (List.getElem_mem lI)) (oy _ (List.getElem_mem lJ)) (by decide) (fun e => ?_) (fun e => ?_)
          · rw [if_pos e] at hacc
            obtain ⟨H3, u⟩ := Upd.of_mem (.lst (acc.map pt ++ [pt (i, j)])) hp2
            repeat walk_at "wk"
            refine ⟨pp, _, rfl, hp2, ?_⟩
            repeat walk_at "wk"
            refine ⟨_, H3, u, by rw [List.length_map]; omega, ?_⟩
            have k3 : Kept pp H2 H3 := u.kept
            repeat walk_at "wk"
            refine ⟨_, _, rfl, ?_⟩
            repeat walk_at "wk"
            have hm : m + i + j = x.length + y.length := Hm
            refine ⟨m - 2, ?_, .here ⟨v1, v2, v3, v4, fun e he => k3 e (kk e he) (fun q => np _ (kk0 e he) q), t2.keep k3 nDp nrp, i + 1, j + 1, acc ++ [(i, j)], rfl, rfl, lI, lJ, by omega, ?_, ?_, ?_⟩⟩
            · omega
            · rw [List.map_append]; exact u.mem'
            · rw [hacc, List.append_assoc]; rfl
            · rw [List.length_append]; exact Nat.succ_le_succ la
          · rw [if_neg e] at hacc
            have e1 := hI (i + 1) (by omega) (by omega) j (by omega)
            have e2 := hI i (by omega) (by omega) (j + 1) (by omega)
            repeat walk_at "wk"
            refine G_list (j := i + 1) (.inl hD2) rfl mr' (fun _ _ => rfl) (by omega) ?_
            repeat walk_at "wk"
            refine G_list h2 rfl (row_get (by omega : j < _)) (fun _ _ => rfl) (by omega) ?_
            repeat walk_at "wk"
            refine G_list (.inl hD2) rfl mr (fun _ _ => rfl) (by omega) ?_
            repeat walk_at "wk"
            refine G_list (j := j + 1) h1 rfl (row_get (by omega : j + 1 < _)) (fun _ _ => rfl) (by omega) ?_
            repeat walk_at "wk"
            refine dc_ (fun h => ?_) (fun h => ?_)
            · rw [if_pos (by omega)] at hacc
              repeat walk_at "wk"
              have hm : m + i + j = x.length + y.length := Hm
              exact ⟨m - 1, by omega, .here ⟨v1, v2, v3, v4, kk, t2, i + 1, j, acc, rfl, v6, lI, hj, by omega, hp2, hacc, by omega⟩⟩
            · rw [if_neg (by omega)] at hacc
              repeat walk_at "wk"
              have hm : m + i + j = x.length + y.length := Hm
              exact ⟨m - 1, by omega, .here ⟨v1, v2, v3, v4, kk, t2, i, j + 1, acc, v5, rfl, hi, lJ, by omega, hp2, hacc, la⟩⟩
        · repeat walk_at "wk"
          rw [List.drop_eq_nil_of_le (as := y) (by omega), pr_nil, List.append_nil] at hacc
          exact hK pp H2 kk (hacc ▸ hp2)
      · repeat walk_at "wk"
        rw [List.drop_eq_nil_of_le (as := x) (by omega), pr_nil', List.append_nil] at hacc
        exact hK pp H2 kk (hacc ▸ hp2)
end

open Classical in
noncomputable def hd : List AV → List AV → Nat
  | [], _ => 0
  | _ :: _, [] => 0
  | a :: x, b :: y => if a = b then hd x y + 1 else 0
noncomputable def tl (h : Nat) (x y : List AV) : Nat := hd (x.drop h).reverse (y.drop h).reverse
noncomputable def inn (x y : List AV) (z : List AV) : List AV := (z.drop (hd x y)).take (z.length - tl (hd x y) x y - hd x y)
noncomputable def kpI (x y : List AV) : List (Nat × Nat) := if x.length = y.length ∨ x.length * y.length > 1600 then (List.range (min x.length y.length)).map fun i => (i, i) else pr 0 0 x y
noncomputable def kp (x y : List AV) : List (Nat × Nat) :=
  (List.range (hd x y)).map (fun i => (i, i)) ++ (kpI (inn x y x) (inn x y y)).map (fun p => (hd x y + p.1, hd x y + p.2)) ++
    (List.range (tl (hd x y) x y)).map fun i => (x.length - tl (hd x y) x y + i, y.length - tl (hd x y) x y + i)
theorem hd_nil (x : List AV) : hd x [] = 0 := by cases x <;> rw [hd]
theorem hd_nil' (x : List AV) : hd [] x = 0 := by cases x <;> rw [hd]
open Classical in
theorem hd_step {x y : List AV} {i : Nat} (hi : i < x.length) (hj : i < y.length) : hd (x.drop i) (y.drop i) = if x[i] = y[i] then hd (x.drop (i + 1)) (y.drop (i + 1)) + 1 else 0 := by
  rw [List.drop_eq_getElem_cons hi, List.drop_eq_getElem_cons hj, hd]
theorem hd_end {x y : List AV} {i : Nat} (h : ¬ (i < x.length ∧ i < y.length)) : hd (x.drop i) (y.drop i) = 0 := by
  by_cases q : i < x.length
  · rw [List.drop_eq_nil_of_le (as := y) (by omega), hd_nil]
  · rw [List.drop_eq_nil_of_le (as := x) (by omega), hd_nil']
theorem hd_le (x y : List AV) : hd x y ≤ x.length ∧ hd x y ≤ y.length := by
  induction x generalizing y with
  | nil => rw [hd_nil']; exact ⟨Nat.zero_le _, Nat.zero_le _⟩
  | cons a x ih =>
    cases y with
    | nil => rw [hd_nil]; exact ⟨Nat.zero_le _, Nat.zero_le _⟩
    | cons b y =>
      have := ih y
      rw [hd]; split <;> simp only [List.length_cons] <;> omega
theorem tl_le (x y : List AV) (h : Nat) : tl h x y ≤ x.length - h ∧ tl h x y ≤ y.length - h := by
  have := hd_le (x.drop h).reverse (y.drop h).reverse
  rw [List.length_reverse, List.length_reverse, List.length_drop, List.length_drop] at this
  exact this
theorem inn_lenx (x y : List AV) : (inn x y x).length = x.length - tl (hd x y) x y - hd x y := by
  rw [inn, List.length_take, List.length_drop]; exact Nat.min_eq_left (Nat.sub_le_sub_right (Nat.sub_le _ _) _)
theorem inn_leny (x y : List AV) : (inn x y y).length = y.length - tl (hd x y) x y - hd x y := by
  rw [inn, List.length_take, List.length_drop]; exact Nat.min_eq_left (Nat.sub_le_sub_right (Nat.sub_le _ _) _)
theorem pr_len (x y : List AV) : ∀ i j, (pr i j x y).length ≤ x.length := by
  have : ∀ (m : Nat) (x y : List AV), x.length + y.length ≤ m → ∀ i j, (pr i j x y).length ≤ x.length := by
    intro m
    induction m with
    | zero =>
      intro x y h i j
      cases x with
      | nil => rw [pr_nil']; exact Nat.le_refl _
      | cons a x => simp only [List.length_cons] at h; omega
    | succ m ih =>
      intro x y h i j
      match x, y with
      | [], y => rw [pr_nil']; exact Nat.le_refl _
      | a :: x, [] => rw [pr_nil]; exact Nat.zero_le _
      | a :: x, b :: y =>
        simp only [List.length_cons] at h
        rw [pr]
        split
        · have := ih x y (by omega) (i + 1) (j + 1)
          simp only [List.length_cons]; omega
        · split
          · have := ih x (b :: y) (by simp only [List.length_cons]; omega) (i + 1) j
            simp only [List.length_cons]; omega
          · exact ih (a :: x) y (by simp only [List.length_cons]; omega) i (j + 1)
  exact this _ x y (Nat.le_refl _)
theorem kpI_len (x y : List AV) : (kpI x y).length ≤ x.length := by
  unfold kpI
  split
  · rw [List.length_map, List.length_range]; omega
  · exact pr_len x y 0 0
section
variable {prog : Program} {w : World} {B : Heap} {n : Nat} {mg mb : Str → Option Value}
theorem pt_eq {a b : Nat} {u v : Int} (h : u = a) (h' : v = b) : AV.tup [.int u, .int v] = pt (a, b) := by subst h; subst h'; rfl
theorem cut_mid {l : List AV} {a b : Nat} {kb : Int} (hb : kb = (b : Int)) (h1 : a ≤ b) (h2 : b ≤ l.length) : cut l (some (a : Int)) (some kb) = some ((l.drop a).take (b - a)) := by
  subst hb
  simp only [cut]
  rw [if_pos ⟨by omega, by omega, by omega⟩]
  rfl
theorem kept_c {a a' : Addr} {H : AH} {p q : Addr} {x y : List AV} {K : AV → AH → Prop} (W : Wd B mg mb) (F : Fn B mg 2 a) (F' : Fn B mg 3 a') (hx : Has H p x) (hy : Has H q y) (lx : x.length ≤ 100) (ly : y.length ≤ 100) (ox : ∀ a ∈ x, AV.ok 4 a = true) (oy : ∀ a ∈ y, AV.ok 4 a = true)
    (hK : ∀ r H', (∀ e ∈ H, e ∈ H') → (r, .lst ((kp x y).map pt)) ∈ H' → K (.ref r) H') :
    opV prog w B (n + 2) [.ref p, .ref q] H (fun vs => call (.ref a') vs) K := by
  refine enter W F' ⟨rfl, rfl, rfl⟩ (names := ["one", "other"]) (by decide) rfl (fun _ _ _ _ _ _ _ _ => BindsTo.of_eq rfl) (fun _ => ⟨.inr ⟨rfl, rfl⟩, .inr ⟨rfl, rfl⟩, trivial⟩) fun L cdv P => ?_
  obtain ⟨tmc, mc⟩ := W.mc
  dsimp only [List.zip_cons_cons, List.zip_nil_left]
  obtain ⟨h, hh⟩ : ∃ h, h = hd x y := ⟨_, rfl⟩
  obtain ⟨t, ht⟩ : ∃ t, t = tl h x y := ⟨_, rfl⟩
  have bh := hd_le x y
  rw [← hh] at bh
  have bt := tl_le x y h
  rw [← ht] at bt
  have hx0 : h + t ≤ x.length := by omega
  have hy0 : h + t ≤ y.length := by omega
  clear bt bh
  have ex : inn x y x = (x.drop h).take (x.length - t - h) := by rw [inn, ← hh, ← ht]
  have ey : inn x y y = (y.drop h).take (y.length - t - h) := by rw [inn, ← hh, ← ht]
  have ek : kp x y = (List.range h).map (fun i => (i, i)) ++ (kpI (inn x y x) (inn x y y)).map (fun p => (h + p.1, h + p.2)) ++ (List.range t).map fun i => (x.length - t + i, y.length - t + i) := by rw [kp, ← hh, ← ht]
  have exl : (inn x y x).length + t + h = x.length := by have q := inn_lenx x y; rw [← hh, ← ht] at q; rw [q]; clear q; omega
  have eyl : (inn x y y).length + t + h = y.length := by clear exl; have q := inn_leny x y; rw [← hh, ← ht] at q; rw [q]; clear q; omega
  have ixl : (inn x y x).length ≤ 100 := by omega
  have iyl : (inn x y y).length ≤ 100 := by omega
  clear exl eyl
  have Hh : Hid (h = hd x y) := hh
  have Ht : Hid (t = tl h x y) := ht
  clear hh ht
  have oxi : ∀ a ∈ inn x y x, AV.ok 4 a = true := fun a ha => ox a (List.mem_of_mem_drop (List.mem_of_mem_take (ex ▸ ha)))
  have oyi : ∀ a ∈ inn x y y, AV.ok 4 a = true := fun a ha => oy a (List.mem_of_mem_drop (List.mem_of_mem_take (ey ▸ ha)))
  have rest3 : ∀ V' H' z, Vars.at_ V' "one" (.ref p) → Vars.at_ V' "other" (.ref q) → Vars.at_ V' "head" (.int h) → Vars.at_ V' "tail" (.int t) → Vars.at_ V' "inner" (.ref z) → (∀ e ∈ H, e ∈ H') → (z, .lst ((kpI (inn x y x) (inn x y y)).map pt)) ∈ H' → wpS prog w B (n + 1) (senv 3 L a' cdv) V' H' ((bodyOf (defAt 3)).drop 7) (funK K) := by
    intro V' H' z v1 v2 v3 v4 v5 kk hz
    have hx1 : Has H' p x := hx.imp (kk _) (kk _)
    have hy1 : Has H' q y := hy.imp (kk _) (kk _)
    have li := kpI_len (inn x y x) (inn x y y)
    walk_at "wb"
    repeat walk_at "wk"
    refine V_comp (by decide) rfl (by decide) rfl (fun _ => rfl) (V' := []) (fun C => sees P _ rfl rfl rfl rfl trivial trivial) ?_
    repeat walk_at "wk"
    refine ⟨by walk_at "lt", ?_⟩
    refine compUp P rfl (by walk_at "lt") (fun i ys H1 => ys = (List.range i).map (fun i => pt (i, i)) ∧ ∀ e ∈ H', e ∈ H1) ⟨rfl, fun e h => h⟩ (fun C i ys H' P' hi j => ?_) (fun ys H1 j D1 => ?_)
    · refine turn1 rfl ?_
      repeat walk_at "wk"
      exact ⟨by rw [j.1, List.range_succ, List.map_append]; rfl, j.2⟩
    obtain ⟨j1, j2⟩ := j
    refine V_comp (by decide) rfl (by decide) rfl (fun _ => rfl) (V' := [("head", .int h)]) (fun C => sees P _ rfl rfl rfl rfl ⟨rfl, trivial⟩ ⟨⟨v3, rfl, rfl⟩, trivial⟩) ?_
    refine R_val ?_
    repeat walk_at "wk"
    refine compLst (l := (kpI (inn x y x) (inn x y y)).map pt) (.inl (.tail _ (j2 _ hz))) P rfl (by rw [List.length_map]; omega) (fun i zs H2 => zs = ((kpI (inn x y x) (inn x y y)).take i).map (fun p => pt (h + p.1, h + p.2)) ∧ ∀ e ∈ ((D1, AO.lst ys) :: H1), e ∈ H2) ⟨rfl, fun e h => h⟩ (fun i zs H2 j => .inl (j.2 _ (.tail _ (j2 _ hz)))) (fun C i e zs H2 P' hi j => ?_) (fun zs H2 j D2 => ?_)
    · rw [List.getElem?_map] at hi
      obtain ⟨⟨u, v⟩, hu, rfl⟩ := Option.map_eq_some_iff.mp hi
      refine turn2 rfl rfl ?_
      repeat walk_at "wk"
      refine ⟨?_, j.2⟩
      rw [j.1, List.take_add_one, hu, List.map_append]; rfl
    obtain ⟨j3, j4⟩ := j
    refine O_addL (.tail _ (j4 _ (.head _))) (.head _) (by rw [j1, j3, List.length_map, List.length_range, List.length_map, List.length_take]; omega) fun D3 => ?_
    have kk3 : ∀ e ∈ H, e ∈ ((D3, AO.lst (ys ++ zs)) :: (D2, AO.lst zs) :: H2) := fun e he => .tail _ (.tail _ (j4 _ (.tail _ (j2 _ (kk e he)))))
    have hx2 : Has ((D3, AO.lst (ys ++ zs)) :: (D2, AO.lst zs) :: H2) p x := hx.imp (kk3 _) (kk3 _)
    have hy2 : Has ((D3, AO.lst (ys ++ zs)) :: (D2, AO.lst zs) :: H2) q y := hy.imp (kk3 _) (kk3 _)
    repeat walk_at "wk"
    refine V_comp (by decide) rfl (by decide) rfl (fun _ => rfl) (V' := [("one", .ref p), ("other", .ref q), ("tail", .int t)]) (fun C => sees P _ rfl rfl rfl rfl ⟨rfl, rfl, rfl, trivial⟩ ⟨⟨v1, rfl, rfl⟩, ⟨v2, rfl, rfl⟩, ⟨v4, rfl, rfl⟩, trivial⟩) ?_
    repeat walk_at "wk"
    refine ⟨by walk_at "lt", ?_⟩
    refine compUp P rfl (by walk_at "lt") (fun i us H3 => us = (List.range i).map (fun i => pt (x.length - t + i, y.length - t + i)) ∧ ∀ e ∈ ((D3, AO.lst (ys ++ zs)) :: (D2, AO.lst zs) :: H2), e ∈ H3) ⟨rfl, fun e h => h⟩ (fun C i us H3 P' hi j => ?_) (fun us H3 j D4 => ?_)
    · obtain ⟨j5, j6⟩ := j
      have hx3 : Has H3 p x := hx2.imp (j6 _) (j6 _)
      have hy3 : Has H3 q y := hy2.imp (j6 _) (j6 _)
      refine turn1 rfl ?_
      repeat walk_at "wk"
      refine ⟨?_, j6⟩
      rw [j5, List.range_succ, List.map_append, pt_eq (a := x.length - t + i) (b := y.length - t + i) (by omega) (by omega)]; rfl
    obtain ⟨j5, j6⟩ := j
    refine O_addL (.tail _ (j6 _ (.head _))) (.head _) (by simp only [j1, j3, j5, List.length_append, List.length_map, List.length_range, List.length_take]; omega) fun D5 => ?_
    refine hK D5 _ (fun e he => .tail _ (.tail _ (j6 _ (kk3 e he)))) ?_
    have e : ys ++ zs ++ us = (kp x y).map pt := by
      rw [ek, List.map_append, List.map_append, j1, j3, j5, List.map_map, List.map_map, List.map_map, List.length_map, List.take_length]; rfl
    rw [← e]; exact .head _
  have rest2 : ∀ V', Vars.at_ V' "one" (.ref p) → Vars.at_ V' "other" (.ref q) → Vars.at_ V' "head" (.int h) → Vars.at_ V' "tail" (.int t) → wpS prog w B (n + 1) (senv 3 L a' cdv) V' H ((bodyOf (defAt 3)).drop 4) (funK K) := by
    intro V' v1 v2 v3 v4
    walk_at "wb"
    repeat walk_at "wk"
    refine ⟨p, x, _, rfl, hx, by omega, cut_mid (b := x.length - t) (by omega) (by omega) (by omega), fun p1 => ?_⟩
    have hy1 : Has ((p1, AO.lst (inn x y x)) :: H) q y := hy.tl
    rw [← ex]
    repeat walk_at "wk"
    refine ⟨q, y, _, rfl, hy1, by omega, cut_mid (b := y.length - t) (by omega) (by omega) (by omega), fun q1 => ?_⟩
    rw [← ey]
    have i1 : Has ((q1, AO.lst (inn x y y)) :: (p1, AO.lst (inn x y x)) :: H) p1 (inn x y x) := .inl (.tail _ (.head _))
    have i2 : Has ((q1, AO.lst (inn x y y)) :: (p1, AO.lst (inn x y x)) :: H) q1 (inn x y y) := .inl (.head _)
    have kk : ∀ e ∈ H, e ∈ ((q1, AO.lst (inn x y y)) :: (p1, AO.lst (inn x y x)) :: H) := fun e h => .tail _ (.tail _ h)
    refine S_if (wpB.mono (K := fun b H' => H' = ((q1, AO.lst (inn x y y)) :: (p1, AO.lst (inn x y x)) :: H) ∧ (b = true → (inn x y x).length = (inn x y y).length ∨ (inn x y x).length * (inn x y y).length > 1600) ∧ (b = false → ¬ ((inn x y x).length = (inn x y y).length ∨ (inn x y x).length * (inn x y y).length > 1600))) ?_ ?_)
    · have em : ((inn x y x).length : Int) * ((inn x y y).length : Int) = (((inn x y x).length * (inn x y y).length : Nat) : Int) := (Int.natCast_mul _ _).symm
      repeat walk_at "wk"
      refine dcf_ (fun h1 => ?_) (fun h1 => ?_)
      · repeat walk_at "wk"
        refine V_globalInt W.G P mc rfl (by decide) ?_
        repeat walk_at "wk"
        refine dcf_ (fun h2 => ?_) (fun h2 => ?_)
        · repeat walk_at "wk"
          exact ⟨rfl, fun e => absurd e (by decide), fun _ q => q.elim (fun z => h1 (by omega)) fun z => h2 (by omega)⟩
        · exact ⟨rfl, fun _ => .inr (by omega), fun e => absurd e (by decide)⟩
      · repeat walk_at "wk"
        exact ⟨rfl, fun _ => .inl (by omega), fun e => absurd e (by decide)⟩
    · rintro b _ ⟨rfl, h1, h2⟩
      refine ⟨fun e => ?_, fun e => ?_⟩
      · have h1 := h1 e
        refine S_assignComp P rfl rfl (by decide) rfl (by decide) rfl (fun _ => rfl) (V' := []) (fun C => sees P _ rfl rfl rfl rfl trivial trivial) ?_
        repeat walk_at "wk"
        refine ⟨min (inn x y x).length (inn x y y).length, congrArg AV.int (by omega), by omega, ?_⟩
        refine compUp P rfl (by walk_at "lt") (fun i ys H' => ys = (List.range i).map (fun i => pt (i, i)) ∧ ∀ e ∈ H, e ∈ H') ⟨rfl, kk⟩ (fun C i ys H' P' hi j => ?_) (fun ys H' j D => ?_)
        · refine turn1 rfl ?_
          repeat walk_at "wk"
          exact ⟨by rw [j.1, List.range_succ, List.map_append]; rfl, j.2⟩
        · refine S_nil (rest3 _ _ D v1 v2 v3 v4 rfl (fun e he => .tail _ (j.2 e he)) ?_)
          rw [kpI, if_pos h1, List.map_map, j.1]; exact .head _
      · have h2 := h2 e
        refine S_assign P (.loc rfl) rfl ?_
        refine V_fn W P F rfl rfl (by decide) rfl ?_
        repeat walk_at "wk"
        refine rows_c W F i1 i2 (by omega) (by omega) oxi oyi fun r H' k hr => ?_
        refine S_nil (rest3 _ _ r v1 v2 v3 v4 rfl (fun e he => k e (kk e he)) ?_)
        rw [kpI, if_neg h2]; exact hr
  have rest1 : ∀ V', Vars.at_ V' "one" (.ref p) → Vars.at_ V' "other" (.ref q) → Vars.at_ V' "head" (.int h) → wpS prog w B (n + 1) (senv 3 L a' cdv) V' H ((bodyOf (defAt 3)).drop 2) (funK K) := by
    intro V' v1 v2 v3
    walk_at "wb"
    repeat walk_at "wk"
    refine S_while (fun m V' H' => Vars.at_ V' "one" (.ref p) ∧ Vars.at_ V' "other" (.ref q) ∧ Vars.at_ V' "head" (.int h) ∧ H' = H ∧ ∃ k : Nat, Vars.at_ V' "tail" (.int k) ∧ h + k ≤ x.length ∧ h + k ≤ y.length ∧ m + k = x.length ∧ t = k + hd ((x.drop h).reverse.drop k) ((y.drop h).reverse.drop k)) x.length ⟨v1, v2, v3, rfl, 0, rfl, by omega, by omega, rfl, (show t = tl h x y from Ht).trans (Nat.zero_add _).symm⟩ ?_
    rintro m V' H' ⟨v1, v2, v3, rfl, k, v4, h1, h2, hm, e⟩
    have Hm : Hid (m + k = x.length) := hm
    have E : Hid (t = k + hd ((x.drop h).reverse.drop k) ((y.drop h).reverse.drop k)) := e
    clear hm e
    repeat walk_at "wk"
    refine dc_ (fun lI => ?_) (fun lI => ?_)
    · have q1 : h + k < x.length := by omega
      have q2 : h + k < y.length := by omega
      clear lI
      obtain ⟨u, hu⟩ : ∃ u, u + k + 1 = x.length := ⟨x.length - 1 - k, by omega⟩
      obtain ⟨v, hv⟩ : ∃ v, v + k + 1 = y.length := ⟨y.length - 1 - k, by omega⟩
      have l1 : k < (x.drop h).reverse.length := by rw [List.length_reverse, List.length_drop]; omega
      have l2 : k < (y.drop h).reverse.length := by rw [List.length_reverse, List.length_drop]; omega
      have g1 : (x.drop h).reverse[k] = x[u] := by
        rw [List.getElem_reverse, List.getElem_drop]
        congr 1
        rw [List.length_drop]; omega
      have g2 : (y.drop h).reverse[k] = y[v] := by
        rw [List.getElem_reverse, List.getElem_drop]
        congr 1
        rw [List.length_drop]; omega
      rw [hd_step l1 l2, g1, g2] at E
      repeat walk_at "wk"
      refine G_at hx u (by omega) (by omega) (by walk_at "lt") (fun _ _ => rfl) ?_
      repeat walk_at "wk"
      refine G_at hy v (by omega) (by omega) (by walk_at "lt") (fun _ _ => rfl) ?_
      repeat walk_at "wk"
      refine O_eqc 4 (ox _ (List.getElem_mem _)) (oy _ (List.getElem_mem _)) (by decide) (fun q => ?_) (fun q => ?_)
      · rw [if_pos q] at E
        repeat walk_at "wk"
        have hm : m + k = x.length := Hm
        exact ⟨m - 1, by omega, .here ⟨v1, v2, v3, rfl, k + 1, rfl, by omega, by omega, by omega, (show t = k + (hd _ _ + 1) from E).trans (by omega)⟩⟩
      · rw [if_neg q, Nat.add_zero] at E
        have e : t = k := E
        subst e
        refine ⟨_, rfl, ff_ (ff_ ?_)⟩
        exact rest2 _ v1 v2 v3 v4
    · rw [hd_end (by rw [List.length_reverse, List.length_drop, List.length_reverse, List.length_drop]; omega), Nat.add_zero] at E
      have e : t = k := E
      subst e
      refine ff_ ?_
      exact rest2 _ v1 v2 v3 v4
  walk_at "wb"
  repeat walk_at "wk"
  refine S_while (fun m V' H' => Vars.at_ V' "one" (.ref p) ∧ Vars.at_ V' "other" (.ref q) ∧ H' = H ∧ ∃ k : Nat, Vars.at_ V' "head" (.int k) ∧ k ≤ x.length ∧ k ≤ y.length ∧ m + k = x.length ∧ h = k + hd (x.drop k) (y.drop k)) x.length ⟨rfl, rfl, rfl, 0, rfl, Nat.zero_le _, Nat.zero_le _, rfl, (show h = hd x y from Hh).trans (Nat.zero_add _).symm⟩ ?_
  rintro m V' H' ⟨v1, v2, rfl, k, v3, h1, h2, hm, e⟩
  have Hm : Hid (m + k = x.length) := hm
  have E : Hid (h = k + hd (x.drop k) (y.drop k)) := e
  clear hm e
  repeat walk_at "wk"
  refine dc_ (fun lI => ?_) (fun lI => ?_)
  · have l1 : k < x.length := by omega
    have l2 : k < y.length := by omega
    clear lI
    rw [hd_step l1 l2] at E
    repeat walk_at "wk"
    refine G_at hx k rfl l1 (by walk_at "lt") (fun _ _ => rfl) ?_
    repeat walk_at "wk"
    refine G_at hy k rfl l2 (by walk_at "lt") (fun _ _ => rfl) ?_
    repeat walk_at "wk"
    refine O_eqc 4 (ox _ (List.getElem_mem _)) (oy _ (List.getElem_mem _)) (by decide) (fun q => ?_) (fun q => ?_)
    · rw [if_pos q] at E
      repeat walk_at "wk"
      have hm : m + k = x.length := Hm
      exact ⟨m - 1, by omega, .here ⟨v1, v2, rfl, k + 1, rfl, by omega, by omega, by omega, (show h = k + (hd _ _ + 1) from E).trans (by omega)⟩⟩
    · rw [if_neg q, Nat.add_zero] at E
      have e : h = k := E
      subst e
      refine ⟨_, rfl, ff_ (ff_ ?_)⟩
      exact rest1 _ v1 v2 v3
  · rw [hd_end (by omega), Nat.add_zero] at E
    have e : h = k := E
    subst e
    refine ff_ ?_
    exact rest1 _ v1 v2 v3
end

theorem VR.toTup {h : Heap} {v : Value} {l : List AV} (x : VR h v (.tup l)) : ∃ a vs n, v = .ref a ∧ IsT h a (List.toArray vs) n ∧ VRs h vs l := by
  cases x with
  | tup h1 h2 => exact ⟨_, _, _, rfl, h1, h2⟩
section
variable {prog : Program} {w : World} {B : Heap} {n : Nat} {env : Env} {V : Vars} {H : AH} {K : AV → AH → Prop}
theorem V_SliceT {value : Expr} {lower : Option Expr} {p pos : Pos}
    (h : wpV prog w B n env V H (eval value env) (fun a H₁ => partE prog w B n env V H₁ lower (fun i H₂ => ∃ (l : List AV) (k : Nat), a = .tup l ∧ i = some (k : Int) ∧ 1 ≤ k ∧ k ≤ l.length ∧ l.length ≤ 1000 ∧ K (.tup (l.drop k)) H₂)))
    (ht : ∀ o r, letTemporaryGo value o r = pure ()) : wpV prog w B n env V H (eval (.Subscript value (.Slice lower Option.none Option.none p) pos) env) K := fun A s r x => by
  refine wpAny_Subscript_Slice (T := "tuple") F.slot_tuple_getitem.lookup (wpAny_mono (h A s r x) (fun v s₁ ⟨a, H₁, h1, h2, h3⟩ => wpAny_Slice (wpAny_mono (h1 A s₁ r (h3.inv x)) (fun vl s₂ ⟨i, H₂, ⟨l, k, e1, e2, e3, e4, e5, e6⟩, k2, k3⟩ => ?_) fun _ _ e => e)) fun _ _ e => e.elim) ht
  subst e1; subst e2
  rw [evalPart_none]
  have E2 := h3.trans k3
  have hi := E2.hi x.hi
  have h2' := h2.mono (k3.tk (h3.hi x.hi))
  obtain ⟨ad, vs, m, rfl, q1, q2⟩ := h2'.toTup
  · have el := q2.length
    cases k2 with
    | int _ t =>
      have T : IsTup s₂.heap _ _ := ⟨_, q1, rfl, _, rfl⟩
      refine wpAny_pure (wpAny_pure ⟨(T.keeps fun _ _ e => Heap.get?_push_of_some _ e).typeIs, PyProof.Rows.getItem_tuple_from (T.keeps fun _ _ e => Heap.get?_push_of_some _ e) (Heap.IsSliceOf.new ..) e3 (by rw [List.size_toArray, el]; exact e4) ?_ (by rw [List.size_toArray, el, sizeLine_eq]; omega)⟩)
      have hk : ∀ b o, s₂.heap.get? b = some o → ((s₂.heap.push { cls := .type "slice", data := .fields #[.int (k : Int) t, .none, .none] }).push { cls := .type "tuple", data := .seq (vs.drop k).toArray }).get? b = some o := fun b o e => push_keeps _ _ (push_keeps _ _ e)
      exact ⟨_, H₂, e6, .tup (vs := vs.drop k) (n := 0) (Heap.get?_push_size _ rfl) ((q2.drop k).mono (tk_of_keep hk)), E2.trans (.grown hi hk)⟩
end

noncomputable def par (P : List (Nat × Nat)) (k : Nat) : Option Nat := (P.find? fun p => p.1 == k).map (·.2)
noncomputable def tk (P : List (Nat × Nat)) (r : Nat) : Bool := (P.map (·.2)).contains r
noncomputable def goneA (path : List AV) (x : List AV) (l : Nat) : AV := .tup [.tup (path ++ [.int l]), .str "gone", x.getD l .none, .none]
noncomputable def addA (path : List AV) (y : List AV) (r : Nat) : AV := .tup [.tup (path ++ [.int r]), .str "added", .none, y.getD r .none]
noncomputable def arL (sr : List AV → AV → AV → List AV) (path : List AV) (P : List (Nat × Nat)) (x y : List AV) (l : Nat) : List AV :=
  match par P l with
  | some r => sr (path ++ [.int l]) (x.getD l .none) (y.getD r .none)
  | none => [goneA path x l]
noncomputable def arR (path : List AV) (P : List (Nat × Nat)) (y : List AV) (m : Nat) : List AV := ((List.range m).filter (fun r => !tk P r)).map (addA path y)
noncomputable def ar (sr : List AV → AV → AV → List AV) (path : List AV) (P : List (Nat × Nat)) (x y : List AV) : List AV :=
  (List.range x.length).flatMap (arL sr path P x y) ++ arR path P y y.length
theorem par_snoc {P : List (Nat × Nat)} {a b k : Nat} (h : a ∉ P.map (·.1)) : par (P ++ [(a, b)]) k = if k = a then some b else par P k := by
  unfold par
  rw [List.find?_append]
  by_cases q : k = a
  · subst q
    rw [if_pos rfl]
    have : P.find? (fun p => p.1 == k) = none := List.find?_eq_none.mpr fun p hp e => h (List.mem_map.mpr ⟨p, hp, by simpa using e⟩)
    rw [this]
    simp
  · rw [if_neg q]
    have : List.find? (fun p => p.1 == k) [(a, b)] = none := List.find?_eq_none.mpr fun p hp e => q (by rw [List.mem_singleton.mp hp] at e; exact (show a = k by simpa using e).symm)
    rw [this]; simp
theorem par_mem {P : List (Nat × Nat)} {k r : Nat} (h : par P k = some r) : (k, r) ∈ P := by
  unfold par at h
  obtain ⟨⟨a, b⟩, h1, rfl⟩ := Option.map_eq_some_iff.mp h
  have h2 := List.find?_some h1
  have : a = k := by simpa using h2
  subst this
  exact List.mem_of_find?_eq_some h1
theorem tk_snoc (P : List (Nat × Nat)) (a b k : Nat) : tk (P ++ [(a, b)]) k = if k = b then true else tk P k := by
  unfold tk
  rw [List.map_append, List.contains_eq_any_beq, List.contains_eq_any_beq, List.any_append]
  by_cases q : k = b
  · subst q; simp
  · simp [q]
theorem getD_get {x : List AV} {i : Nat} (h : i < x.length) : x.getD i .none = x[i] := by
  rw [List.getD_eq_getElem?_getD, List.getElem?_eq_getElem h]; rfl
section
variable {prog : Program} {w : World} {B : Heap} {n : Nat} {mg mb : Str → Option Value}
theorem array_c {N : Nat} {a a' s c : Addr} {sr : List AV → AV → AV → List AV} {H : AH} {p q : Addr} {path x y : List AV} {K : AV → AH → Prop} (W : Wd B mg mb) (F : Fn B mg 2 a) (F' : Fn B mg 3 a') (Fs : Fn B mg 7 s) (Fc : Fn B mg 4 c)
    (hS : ∀ (path : List AV) (u v : AV) (H : AH) (K : AV → AH → Prop), path ≠ [] → path.length ≤ N + 1 → u ∈ x → v ∈ y → (∀ r H', (∀ e ∈ H, e ∈ H') → (r, .lst (sr path u v)) ∈ H' → K (.ref r) H') → opV prog w B (n + 2) [.tup path, u, v] H (fun vs => call (.ref s) vs) K)
    (hL : ∀ (path : List AV) (u v : AV), u ∈ x → v ∈ y → (sr path u v).length ≤ 100) (hp0 : path ≠ []) (hp1 : path.length ≤ N) (hNN : N ≤ 100)
    (hx : Has H p x) (hy : Has H q y) (lx : x.length ≤ 100) (ly : y.length ≤ 100) (ox : ∀ a ∈ x, AV.ok 4 a = true) (oy : ∀ a ∈ y, AV.ok 4 a = true)
    (hN : ((kp x y).map (·.1)).Nodup) (hB : ∀ e ∈ kp x y, e.1 < x.length ∧ e.2 < y.length) (hPl : (kp x y).length ≤ 1000)
    (hK : ∀ r H', (∀ e ∈ H, e ∈ H') → (r, .lst (ar sr path (kp x y) x y)) ∈ H' → K (.ref r) H') :
    opV prog w B (n + 3) [.tup path, .ref p, .ref q] H (fun vs => call (.ref c) vs) K := by
  refine enter W Fc ⟨rfl, rfl, rfl⟩ (names := ["path", "one", "other"]) (by decide) rfl (fun _ _ _ _ _ _ _ _ _ => BindsTo.of_eq rfl) (fun _ => ⟨.inl rfl, .inl rfl, .inl rfl, trivial⟩) fun L cdv P => ?_
  dsimp only [List.zip_cons_cons, List.zip_nil_left]
  walk_at "wb"
  refine S_assign P (.loc rfl) rfl ?_
  refine V_fn W P F' rfl rfl (by decide) rfl ?_
  repeat walk_at "wk"
  refine kept_c W F F' hx hy lx ly ox oy fun z H1 k1 hz => ?_
  obtain ⟨Q, hQ⟩ : ∃ Q, Q = kp x y := ⟨_, rfl⟩
  rw [← hQ] at hz hN hB hPl hK
  repeat walk_at "wk"
  refine fun d1 => ?_
  repeat walk_at "wk"
  refine fun d2 => S_nd fun nd2 => ?_
  rw [List.map_cons, List.map_cons, List.nodup_cons, List.nodup_cons] at nd2
  have n21 : d2 ≠ d1 := fun e => nd2.1 (e ▸ List.mem_cons_self)
  have nd1 : ∀ e ∈ H1, e.1 ≠ d1 := fun e he q => nd2.2.1 (q ▸ List.mem_map.mpr ⟨e, he, rfl⟩)
  have nd2' : ∀ e ∈ H1, e.1 ≠ d2 := fun e he q => nd2.1 (.tail _ (q ▸ List.mem_map.mpr ⟨e, he, rfl⟩))
  refine S_for' P (fun _ => rfl) ?_
  refine R_val ?_
  repeat walk_at "wk"
  refine ⟨_, .inl (.tail _ (.tail _ hz)), (fun i V' H' => Vars.at_ V' "path" (.tup path) ∧ Vars.at_ V' "one" (.ref p) ∧ Vars.at_ V' "other" (.ref q) ∧ Vars.at_ V' "partners" (.ref d1) ∧ Vars.at_ V' "known" (.ref d2) ∧ (∃ f m, (d1, .dic f m) ∈ H' ∧ m ≤ i ∧ ∀ k : Nat, f k = (par (Q.take i) k).map (fun r => .int r)) ∧
    (∃ f m, (d2, .dic f m) ∈ H' ∧ m ≤ i ∧ ∀ k : Nat, (f k).isSome = tk (Q.take i) k) ∧ (∀ e ∈ H1, e ∈ H')), ?_, ?_, ?_, ?_⟩
  · exact ⟨rfl, rfl, rfl, rfl, rfl, ⟨_, _, .tail _ (.head _), Nat.le_refl _, fun _ => rfl⟩, ⟨_, _, .head _, Nat.le_refl _, fun _ => rfl⟩, fun e h => .tail _ (.tail _ h)⟩
  · rintro i V' H' ⟨_, _, _, _, _, _, _, kk⟩
    exact .inl (kk _ hz)
  · rintro i e V' H2 hi ⟨v1, v2, v3, v4, v5, ⟨f, m, hf, hm, hfe⟩, ⟨g, m', hg, hm', hge⟩, kk⟩
    rw [List.getElem?_map] at hi
    obtain ⟨⟨u, v⟩, hu, rfl⟩ := Option.map_eq_some_iff.mp hi
    have hil : i < Q.length := (List.getElem?_eq_some_iff.mp hu).1
    have ht : Q.take (i + 1) = Q.take i ++ [(u, v)] := by rw [List.take_add_one, hu]; rfl
    have hnew : u ∉ (Q.take i).map (·.1) := fun hm => by
      have e : (Q.take (i + 1)).map (·.1) = (Q.take i).map (·.1) ++ [u] := by rw [ht, List.map_append]; rfl
      have nd := ((List.take_sublist (i + 1) Q).map (·.1)).nodup hN
      rw [e, List.nodup_append] at nd
      exact nd.2.2 u hm u (List.mem_singleton.mpr rfl) rfl
    refine ⟨_, .two (.loc rfl) (.loc rfl), ?_⟩
    repeat walk_at "wk"
    obtain ⟨H3, u3⟩ := Upd.of_mem (.dic (fun x => if x = (u : Int) then some (.int v) else f x) (m + 1)) hf
    refine T_dic u3 (by omega) ?_
    have hg3 := u3.keep hg n21
    repeat walk_at "wk"
    obtain ⟨H4, u4⟩ := Upd.of_mem (.dic (fun x => if x = (v : Int) then some (.bool true) else g x) (m' + 1)) hg3
    refine T_dic u4 (by omega) ?_
    repeat walk_at "wk"
    refine .here ⟨v1, v2, v3, v4, v5, ⟨_, _, u4.keep u3.mem' n21.symm, Nat.succ_le_succ hm, fun k => ?_⟩, ⟨_, _, u4.mem', Nat.succ_le_succ hm', fun k => ?_⟩, fun e he => u4.keep (q := e.1) (x := e.2) (u3.keep (q := e.1) (x := e.2) (kk e he) (nd1 e he)) (nd2' e he)⟩
    · rw [ht, par_snoc hnew]
      by_cases q : k = u
      · subst q; rw [if_pos rfl, if_pos rfl]; rfl
      · rw [if_neg (by omega), if_neg q]; exact hfe k
    · rw [ht, tk_snoc]
      by_cases q : k = v
      · subst q; rw [if_pos rfl, if_pos rfl]; rfl
      · rw [if_neg (by omega), if_neg q]; exact hge k
  · rintro V' H2 ⟨v1, v2, v3, v4, v5, ⟨f, m, hf, hm, hfe⟩, ⟨g, m', hg, hm', hge⟩, kk⟩
    rw [List.length_map, List.take_length] at hfe hge
    have kk0 : ∀ e ∈ H, e ∈ H2 := fun e he => kk e (k1 e he)
    repeat walk_at "wk"
    refine fun rw' => S_nd fun nd => ?_
    rw [List.map_cons, List.nodup_cons] at nd
    have nr : ∀ e ∈ H2, e.1 ≠ rw' := fun e he q => nd.1 (q ▸ List.mem_map.mpr ⟨e, he, rfl⟩)
    have nr1 : d1 ≠ rw' := nr _ hf
    have nr2 : d2 ≠ rw' := nr _ hg
    have hx2 : Has ((rw', .lst []) :: H2) p x := Has.tl (hx.imp (kk0 _) (kk0 _))
    refine S_for' P (fun _ => rfl) ?_
    repeat walk_at "wk"
    refine ⟨by walk_at "lt", ?_⟩
    have rest : ∀ V' H3, Vars.at_ V' "path" (.tup path) → Vars.at_ V' "other" (.ref q) → Vars.at_ V' "known" (.ref d2) → Vars.at_ V' "rows" (.ref rw') → (∀ e ∈ H2, e ∈ H3) → (∃ acc : List AV, acc.length ≤ 10000 ∧ acc = (List.range x.length).flatMap (arL sr path Q x y) ∧ (rw', .lst acc) ∈ H3) → wpS prog w B (n + 2) (senv 4 L c cdv) V' H3 ((bodyOf (defAt 4)).drop 6) (funK K) := by
      rintro V' H3 v1 v3 v5 v6 k3 ⟨acc, la, ha, hr⟩
      have hy3 : Has H3 q y := hy.imp (fun h => k3 _ (kk0 _ h)) (fun h => k3 _ (kk0 _ h))
      walk_at "wb"
      refine S_for' P (fun _ => rfl) ?_
      repeat walk_at "wk"
      refine ⟨by walk_at "lt", ?_⟩
      refine forUp (.loc rfl) (fun i V' H' => Vars.at_ V' "path" (.tup path) ∧ Vars.at_ V' "other" (.ref q) ∧ Vars.at_ V' "known" (.ref d2) ∧ Vars.at_ V' "rows" (.ref rw') ∧ (∀ e ∈ H2, e ∈ H') ∧ ∃ zs : List AV, zs.length ≤ 10000 + i ∧ zs = acc ++ arR path Q y i ∧ (rw', .lst zs) ∈ H') ⟨v1, v3, v5, v6, k3, acc, by omega, by rw [arR]; simp, hr⟩ ?_ ?_
      · rintro i V' H4 hi ⟨v1, v3, v5, v6, k4, zs, lz, hz, hr⟩
        have hy4 : Has H4 q y := hy.imp (fun h => k4 _ (kk0 _ h)) (fun h => k4 _ (kk0 _ h))
        have hg4 := k4 _ hg
        have hs : arR path Q y (i + 1) = arR path Q y i ++ (if tk Q i = true then [] else [addA path y i]) := by
          unfold arR
          rw [List.range_succ, List.filter_append, List.map_append]
          congr 1
          by_cases ht : tk Q i = true
          · rw [if_pos ht, List.filter_cons_of_neg (by simp [ht])]; rfl
          · rw [if_neg ht, List.filter_cons_of_pos (by simp [ht])]; rfl
        repeat walk_at "wk"
        refine O_notIn hg4 ?_
        rw [hge i]
        repeat walk_at "wk"
        cases ht : tk Q i with
        | true =>
          rw [if_pos ht, List.append_nil] at hs
          refine ff_ ?_
          repeat walk_at "wk"
          exact .here ⟨v1, v3, v5, v6, k4, zs, by omega, by rw [hs]; exact hz, hr⟩
        | false =>
          rw [if_neg (by rw [ht]; decide)] at hs
          refine tt_ ?_
          repeat walk_at "wk"
          obtain ⟨H5, u⟩ := Upd.of_mem (.lst (zs ++ [addA path y i])) hr
          refine ⟨_, _, rfl, hr, ?_⟩
          repeat walk_at "wk"
          refine O_addT hp0 (by simp) (by simp only [List.length_cons, List.length_nil]; omega) ?_
          repeat walk_at "wk"
          refine G_at hy4 i rfl hi (by walk_at "lt") (fun _ _ => rfl) ?_
          repeat walk_at "wk"
          rw [addA, getD_get hi] at u
          refine ⟨_, H5, u, by omega, ?_⟩
          repeat walk_at "wk"
          refine .here ⟨v1, v3, v5, v6, fun e he => u.keep (q := e.1) (x := e.2) (k4 e he) (nr e he), _, ?_, ?_, u.mem'⟩
          · rw [List.length_append]; simp only [List.length_cons, List.length_nil]; omega
          · rw [hs, hz, addA, getD_get hi, List.append_assoc]
      · rintro V' H4 ⟨v1, v3, v5, v6, k4, zs, lz, hz, hr⟩
        repeat walk_at "wk"
        refine hK rw' H4 (fun e he => k4 e (kk0 e he)) ?_
        rw [ar, ← ha, ← hz]; exact hr
    refine forUp (.loc rfl) (fun i V' H' => Vars.at_ V' "path" (.tup path) ∧ Vars.at_ V' "one" (.ref p) ∧ Vars.at_ V' "other" (.ref q) ∧ Vars.at_ V' "partners" (.ref d1) ∧ Vars.at_ V' "known" (.ref d2) ∧ Vars.at_ V' "rows" (.ref rw') ∧ (∀ e ∈ H2, e ∈ H') ∧ ∃ zs : List AV, zs.length ≤ 100 * i ∧ zs = (List.range i).flatMap (arL sr path Q x y) ∧ (rw', .lst zs) ∈ H') ⟨v1, v2, v3, v4, v5, rfl, fun e h => .tail _ h, [], Nat.le_refl _, rfl, .head _⟩ ?_ ?_
    · rintro i V' H3 hi ⟨v1, v2, v3, v4, v5, v6, k3, zs, lz, hz, hr⟩
      have hx3 : Has H3 p x := hx.imp (fun h => k3 _ (kk0 _ h)) (fun h => k3 _ (kk0 _ h))
      have hy3 : Has H3 q y := hy.imp (fun h => k3 _ (kk0 _ h)) (fun h => k3 _ (kk0 _ h))
      have hf3 := k3 _ hf
      have hs : (List.range (i + 1)).flatMap (arL sr path Q x y) = (List.range i).flatMap (arL sr path Q x y) ++ arL sr path Q x y i := by
        rw [List.range_succ, List.flatMap_append]; simp
      have hfi := hfe i
      repeat walk_at "wk"
      refine O_in hf3 ?_
      rw [hfi]
      repeat walk_at "wk"
      cases ht : par Q i with
      | some r =>
        rw [ht] at hfi
        have hr2 := (hB _ (par_mem ht)).2
        refine tt_ ?_
        repeat walk_at "wk"
        refine ⟨_, _, rfl, hr, ?_⟩
        refine V_fn W P Fs rfl rfl (by decide) rfl ?_
        repeat walk_at "wk"
        refine O_addT hp0 (by simp) (by simp only [List.length_cons, List.length_nil]; omega) ?_
        repeat walk_at "wk"
        refine G_at hx3 i rfl hi (by walk_at "lt") (fun _ _ => rfl) ?_
        repeat walk_at "wk"
        refine G_dic hf3 hfi (fun _ _ => rfl) ?_
        refine G_at hy3 r rfl hr2 (by walk_at "lt") (fun _ _ => rfl) ?_
        repeat walk_at "wk"
        refine hS _ _ _ _ _ (by simp) (by rw [List.length_append]; simp only [List.length_cons, List.length_nil]; omega) (List.getElem_mem _) (List.getElem_mem _) fun t H4 k4 ht4 => ?_
        have hl : (sr (path ++ [AV.int i]) x[i] y[r]).length ≤ 100 := hL _ _ _ (List.getElem_mem hi) (List.getElem_mem hr2)
        generalize hk : sr (path ++ [AV.int i]) x[i] y[r] = kk5 at hl ht4
        obtain ⟨H5, u⟩ := Upd.of_mem (.lst (zs ++ kk5)) (k4 _ hr)
        refine ⟨_, _, _, H5, rfl, ht4, u, by omega, ?_⟩
        repeat walk_at "wk"
        refine .here ⟨v1, v2, v3, v4, v5, v6, fun e he => u.keep (q := e.1) (x := e.2) (k4 _ (k3 e he)) (nr e he), _, ?_, ?_, u.mem'⟩
        · rw [List.length_append]; omega
        · rw [hs, hz]
          congr 1
          unfold arL
          rw [ht]
          show _ = sr (path ++ [.int i]) (x.getD i .none) (y.getD r .none)
          rw [getD_get hi, getD_get hr2]
          exact hk.symm
      | none =>
        refine ff_ ?_
        repeat walk_at "wk"
        obtain ⟨H5, u⟩ := Upd.of_mem (.lst (zs ++ [goneA path x i])) hr
        refine ⟨_, _, rfl, hr, ?_⟩
        repeat walk_at "wk"
        refine O_addT hp0 (by simp) (by simp only [List.length_cons, List.length_nil]; omega) ?_
        repeat walk_at "wk"
        refine G_at hx3 i rfl hi (by walk_at "lt") (fun _ _ => rfl) ?_
        repeat walk_at "wk"
        rw [goneA, getD_get hi] at u
        refine ⟨_, H5, u, by omega, ?_⟩
        repeat walk_at "wk"
        refine .here ⟨v1, v2, v3, v4, v5, v6, fun e he => u.keep (q := e.1) (x := e.2) (k3 e he) (nr e he), _, ?_, ?_, u.mem'⟩
        · rw [List.length_append]; simp only [List.length_cons, List.length_nil]; omega
        · rw [hs, hz]
          congr 1
          unfold arL
          rw [ht]
          show _ = [goneA path x i]
          rw [goneA, getD_get hi]
    · rintro V' H3 ⟨v1, v2, v3, v4, v5, v6, k3, zs, lz, hz, hr⟩
      exact rest V' H3 v1 v3 v5 v6 k3 ⟨zs, by omega, hz, hr⟩
end

noncomputable def turnA (path : List AV) (a b : AV) : AV := .tup [.tup path, .str "turned", a, b]
section
variable {prog : Program} {w : World} {B : Heap} {n : Nat} {mg mb : Str → Option Value}
theorem ok_head {s : Str} {l : List AV} (h : AV.ok 4 (.tup (.str s :: l)) = true) : AV.ok 4 (.str s) = true := by
  rw [AV.ok_tup, List.all_cons, Bool.and_eq_true, AV.ok_str] at h
  rw [AV.ok_str]; exact h.1
theorem ok_arr : AV.ok 4 (.str "array") = true := .trans (AV.ok_str _ _) (strOk_of _ _ rfl (by decide))
theorem ok_dict : AV.ok 4 (.str "dict") = true := .trans (AV.ok_str _ _) (strOk_of _ _ rfl (by decide))
theorem ok_stream : AV.ok 4 (.str "stream") = true := .trans (AV.ok_str _ _) (strOk_of _ _ rfl (by decide))
theorem shape_c {s' c : Addr} {H : AH} {path : List AV} {s t : Str} {l k res : List AV} {K : AV → AH → Prop} (W : Wd B mg mb) (Fs : Fn B mg 7 s') (Fc : Fn B mg 4 c)
    (oa : AV.ok 4 (.tup (.str s :: l)) = true) (ob : AV.ok 4 (.tup (.str t :: k)) = true) (sd : s ≠ "dict" ∧ s ≠ "stream") (ll : l.length ≤ 100 ∧ k.length ≤ 100)
    (hA : s = "array" → t = "array" → AV.tup (.str s :: l) ≠ .tup (.str t :: k) → ∀ (H : AH) (p q : Addr) (K : AV → AH → Prop), Has H p l → Has H q k → (∀ r H', (∀ e ∈ H, e ∈ H') → (r, .lst res) ∈ H' → K (.ref r) H') → opV prog w B n [.tup path, .ref p, .ref q] H (fun vs => call (.ref c) vs) K)
    (h0 : AV.tup (.str s :: l) = .tup (.str t :: k) → res = []) (h1 : AV.tup (.str s :: l) ≠ .tup (.str t :: k) → ¬ (s = "array" ∧ t = "array") → res = [turnA path (.tup (.str s :: l)) (.tup (.str t :: k))])
    (hK : ∀ r H', (∀ e ∈ H, e ∈ H') → (r, .lst res) ∈ H' → K (.ref r) H') :
    opV prog w B (n + 1) [.tup path, .tup (.str s :: l), .tup (.str t :: k)] H (fun vs => call (.ref s') vs) K := by
  obtain ⟨a, ha⟩ : ∃ a, a = AV.tup (.str s :: l) := ⟨_, rfl⟩
  obtain ⟨b, hb⟩ : ∃ b, b = AV.tup (.str t :: k) := ⟨_, rfl⟩
  rw [← ha, ← hb]
  rw [← ha] at oa h0 h1 hA
  rw [← hb] at ob h0 h1 hA
  have os : AV.ok 4 (.str s) = true := ok_head (ha ▸ oa)
  have ot : AV.ok 4 (.str t) = true := ok_head (hb ▸ ob)
  refine enter W Fs ⟨rfl, rfl, rfl⟩ (names := ["path", "one", "other"]) (by decide) rfl (fun _ _ _ _ _ _ _ _ _ => BindsTo.of_eq rfl) (fun _ => ⟨.inl rfl, .inl rfl, .inl rfl, trivial⟩) fun L cdv P => ?_
  dsimp only [List.zip_cons_cons, List.zip_nil_left]
  walk_at "wb"
  repeat walk_at "wk"
  refine O_eqc 4 oa ob (by decide) (fun e => ?_) (fun e => ?_)
  · repeat walk_at "wk"
    refine fun r => ?_
    rw [← h0 e]
    exact hK r _ (fun e h => .tail _ h) (.head _)
  · subst ha; subst hb
    repeat walk_at "wk"
    have fin : ∀ {K' : AF → Vars → AH → Prop}, res = [turnA path (.tup (.str s :: l)) (.tup (.str t :: k))] → ∀ r, K (.ref r) ((r, .lst [.tup [.tup path, .str "turned", .tup (.str s :: l), .tup (.str t :: k)]]) :: H) := fun hr r => hK r _ (fun e h => .tail _ h) (by rw [hr]; exact .head _)
    refine O_eqc 4 os ot (by decide) (fun e1 => ?_) (fun e1 => ?_)
    · repeat walk_at "wk"
      refine O_eqc 4 ot ok_arr (by decide) (fun e2 => ?_) (fun e2 => ?_)
      · have et : t = "array" := by injection e2
        have es : s = "array" := by injection e1 with e1; exact e1.trans et
        refine ⟨_, rfl, ?_⟩
        refine tt_ ?_
        refine S_ret ?_
        refine V_fn W P Fc rfl rfl (by decide) rfl ?_
        refine L_cons ?_ rfl
        refine V_local rfl ?_ rfl rfl rfl
        refine L_cons ?_ rfl
        refine V_listT W P rfl rfl ?_
        refine V_SliceT ?_ (fun _ _ => rfl)
        refine V_local rfl ?_ rfl rfl rfl
        refine P_some (V_int ⟨_, rfl, ?_⟩)
        refine ⟨_, 1, rfl, rfl, Nat.le_refl _, by simp only [List.length_cons]; omega, by simp only [List.length_cons]; omega, ?_⟩
        refine ⟨_, rfl, by simp only [List.drop_succ_cons, List.drop_zero]; omega, fun p1 => ?_⟩
        refine L_cons ?_ rfl
        refine V_listT W P rfl rfl ?_
        refine V_SliceT ?_ (fun _ _ => rfl)
        refine V_local rfl ?_ rfl rfl rfl
        refine P_some (V_int ⟨_, rfl, ?_⟩)
        refine ⟨_, 1, rfl, rfl, Nat.le_refl _, by simp only [List.length_cons]; omega, by simp only [List.length_cons]; omega, ?_⟩
        refine ⟨_, rfl, by simp only [List.drop_succ_cons, List.drop_zero]; omega, fun q1 => ?_⟩
        repeat walk_at "wk"
        exact hA es et e _ _ _ _ (.inl (.tail _ (.head _))) (.inl (.head _)) fun r H' k' hr => hK r H' (fun e h => k' _ (.tail _ (.tail _ h))) hr
      · have hr := h1 e (fun q => e2 (by rw [q.2]))
        repeat walk_at "wk"
        refine O_eqc 4 os ot (by decide) (fun e3 => ?_) (fun e3 => absurd e1 e3)
        repeat walk_at "wk"
        refine O_eqc 4 ot ok_dict (by decide) (fun e4 => absurd (by injection e1 with e1; injection e4 with e4; exact e1.trans e4) sd.1) (fun e4 => ?_)
        repeat walk_at "wk"
        refine O_eqc 4 os ot (by decide) (fun e3 => ?_) (fun e3 => absurd e1 e3)
        repeat walk_at "wk"
        refine O_eqc 4 ot ok_stream (by decide) (fun e4 => absurd (by injection e1 with e1; injection e4 with e4; exact e1.trans e4) sd.2) (fun e4 => ?_)
        repeat walk_at "wk"
        exact fin (K' := fun _ _ _ => True) hr
    · have hr := h1 e (fun q => e1 (by rw [q.1, q.2]))
      repeat walk_at "wk"
      refine O_eqc 4 os ot (by decide) (fun e3 => absurd e3 e1) (fun e3 => ?_)
      repeat walk_at "wk"
      refine O_eqc 4 os ot (by decide) (fun e3 => absurd e3 e1) (fun e3 => ?_)
      repeat walk_at "wk"
      exact fin (K' := fun _ _ _ => True) hr
end

def asc (L : List (Nat × Nat)) : Prop := L.Pairwise fun p q => p.1 < q.1 ∧ p.2 < q.2
theorem lc_cons {a b : AV} {x y : List AV} (h : a = b) : lc (a :: x) (b :: y) = lc x y + 1 := by rw [lc, if_pos h]
theorem lc_ne {a b : AV} {x y : List AV} (h : a ≠ b) : lc (a :: x) (b :: y) = max (lc x (b :: y)) (lc (a :: x) y) := by rw [lc, if_neg h]
structure PrOk (i j : Nat) (x y : List AV) (L : List (Nat × Nat)) : Prop where
  a : asc L
  b : ∀ p ∈ L, i ≤ p.1 ∧ j ≤ p.2 ∧ p.1 < i + x.length ∧ p.2 < j + y.length ∧ x[p.1 - i]? = y[p.2 - j]?
theorem pr_ok : ∀ (m : Nat) (x y : List AV), x.length + y.length ≤ m → ∀ i j, PrOk i j x y (pr i j x y) ∧ (pr i j x y).length = lc x y := by
  intro m
  induction m with
  | zero =>
    intro x y h i j
    cases x with
    | nil => rw [pr_nil', lc_nil']; exact ⟨⟨.nil, fun p h => absurd h List.not_mem_nil⟩, rfl⟩
    | cons a x => simp only [List.length_cons] at h; omega
  | succ m ih =>
    intro x y h i j
    match x, y with
    | [], y => rw [pr_nil', lc_nil']; exact ⟨⟨.nil, fun p h => absurd h List.not_mem_nil⟩, rfl⟩
    | a :: x, [] => rw [pr_nil, lc_nil]; exact ⟨⟨.nil, fun p h => absurd h List.not_mem_nil⟩, rfl⟩
    | a :: x, b :: y =>
      simp only [List.length_cons] at h
      rw [pr]
      by_cases e : a = b
      · rw [if_pos e, lc_cons e]
        obtain ⟨⟨i1, i2⟩, i3⟩ := ih x y (by omega) (i + 1) (j + 1)
        refine ⟨⟨List.Pairwise.cons (fun p hp => ?_) i1, fun p hp => ?_⟩, by rw [List.length_cons, i3]⟩
        · have := i2 p hp
          exact ⟨by show i < p.1; omega, by show j < p.2; omega⟩
        · rcases List.mem_cons.mp hp with rfl | hp
          · refine ⟨Nat.le_refl _, Nat.le_refl _, ?_, ?_, ?_⟩
            · simp only [List.length_cons]; omega
            · simp only [List.length_cons]; omega
            · show (a :: x)[i - i]? = (b :: y)[j - j]?
              rw [Nat.sub_self, Nat.sub_self, e]; rfl
          · obtain ⟨q1, q2, q3, q4, q5⟩ := i2 p hp
            refine ⟨by omega, by omega, by simp only [List.length_cons]; omega, by simp only [List.length_cons]; omega, ?_⟩
            have z1 : p.1 - i = (p.1 - (i + 1)) + 1 := by omega
            have z2 : p.2 - j = (p.2 - (j + 1)) + 1 := by omega
            rw [z1, z2, List.getElem?_cons_succ, List.getElem?_cons_succ]; exact q5
      · rw [if_neg e, lc_ne e]
        by_cases c : lc (a :: x) y ≤ lc x (b :: y)
        · rw [if_pos c]
          obtain ⟨⟨i1, i2⟩, i3⟩ := ih x (b :: y) (by simp only [List.length_cons]; omega) (i + 1) j
          refine ⟨⟨i1, fun p hp => ?_⟩, by rw [i3]; omega⟩
          obtain ⟨q1, q2, q3, q4, q5⟩ := i2 p hp
          refine ⟨by omega, by omega, by simp only [List.length_cons]; omega, q4, ?_⟩
          have z1 : p.1 - i = (p.1 - (i + 1)) + 1 := by omega
          rw [z1, List.getElem?_cons_succ]; exact q5
        · rw [if_neg c]
          obtain ⟨⟨i1, i2⟩, i3⟩ := ih (a :: x) y (by simp only [List.length_cons]; omega) i (j + 1)
          refine ⟨⟨i1, fun p hp => ?_⟩, by rw [i3]; omega⟩
          obtain ⟨q1, q2, q3, q4, q5⟩ := i2 p hp
          refine ⟨by omega, by omega, q3, by simp only [List.length_cons]; omega, ?_⟩
          have z2 : p.2 - j = (p.2 - (j + 1)) + 1 := by omega
          rw [z2, List.getElem?_cons_succ]; exact q5
theorem pr0 (x y : List AV) : PrOk 0 0 x y (pr 0 0 x y) ∧ (pr 0 0 x y).length = lc x y := pr_ok _ x y (Nat.le_refl _) 0 0
theorem asc_append {L M : List (Nat × Nat)} (h1 : asc L) (h2 : asc M) (h : ∀ p ∈ L, ∀ q ∈ M, p.1 < q.1 ∧ p.2 < q.2) : asc (L ++ M) := List.pairwise_append.mpr ⟨h1, h2, h⟩
theorem asc_diag (n a b : Nat) : asc ((List.range n).map fun i => (a + i, b + i)) :=
  List.pairwise_map.mpr (List.pairwise_lt_range.imp fun {i j} h => ⟨by show a + i < a + j; omega, by show b + i < b + j; omega⟩)
theorem asc_diag' (n : Nat) : asc ((List.range n).map fun i => (i, i)) := List.pairwise_map.mpr (List.pairwise_lt_range.imp fun h => ⟨h, h⟩)
theorem asc_shift {L : List (Nat × Nat)} (h : asc L) (a b : Nat) : asc (L.map fun p => (a + p.1, b + p.2)) :=
  List.pairwise_map.mpr (List.Pairwise.imp (fun {p q} h => ⟨by show a + p.1 < a + q.1; omega, by show b + p.2 < b + q.2; omega⟩) h)
theorem kpI_ok (x y : List AV) : asc (kpI x y) ∧ ∀ p ∈ kpI x y, p.1 < x.length ∧ p.2 < y.length := by
  unfold kpI
  split
  · refine ⟨asc_diag' _, fun p hp => ?_⟩
    obtain ⟨i, hi, rfl⟩ := List.mem_map.mp hp
    have := List.mem_range.mp hi
    exact ⟨by show i < _; omega, by show i < _; omega⟩
  · refine ⟨(pr0 x y).1.a, fun p hp => ?_⟩
    have := (pr0 x y).1.b p hp
    omega
theorem kp_ok (x y : List AV) : asc (kp x y) ∧ ∀ p ∈ kp x y, p.1 < x.length ∧ p.2 < y.length := by
  have bh := hd_le x y
  have bt := tl_le x y (hd x y)
  have e1 := inn_lenx x y
  have e2 := inn_leny x y
  have ki := kpI_ok (inn x y x) (inn x y y)
  unfold kp
  generalize hd x y = h at *
  generalize tl h x y = t at *
  have b1 : h + t ≤ x.length := by omega
  have b2 : h + t ≤ y.length := by omega
  have e1' : (inn x y x).length + t + h ≤ x.length := by omega
  have e2' : (inn x y y).length + t + h ≤ y.length := by omega
  clear bh bt e1 e2
  refine ⟨asc_append (asc_append (asc_diag' _) (asc_shift ki.1 _ _) fun p hp q hq => ?_) (asc_diag _ _ _) fun p hp q hq => ?_, fun p hp => ?_⟩
  · obtain ⟨i, hi, rfl⟩ := List.mem_map.mp hp
    obtain ⟨q', hq', rfl⟩ := List.mem_map.mp hq
    have := List.mem_range.mp hi
    exact ⟨by show i < h + q'.1; omega, by show i < h + q'.2; omega⟩
  · obtain ⟨i, hi, rfl⟩ := List.mem_map.mp hq
    rcases List.mem_append.mp hp with hp | hp
    · obtain ⟨j, hj, rfl⟩ := List.mem_map.mp hp
      have := List.mem_range.mp hj
      exact ⟨by show j < x.length - t + i; omega, by show j < y.length - t + i; omega⟩
    · obtain ⟨p', hp', rfl⟩ := List.mem_map.mp hp
      have := ki.2 p' hp'
      exact ⟨by show h + p'.1 < x.length - t + i; omega, by show h + p'.2 < y.length - t + i; omega⟩
  · rcases List.mem_append.mp hp with hp | hp
    · rcases List.mem_append.mp hp with hp | hp
      · obtain ⟨j, hj, rfl⟩ := List.mem_map.mp hp
        have := List.mem_range.mp hj
        exact ⟨by show j < x.length; omega, by show j < y.length; omega⟩
      · obtain ⟨p', hp', rfl⟩ := List.mem_map.mp hp
        have := ki.2 p' hp'
        exact ⟨by show h + p'.1 < x.length; omega, by show h + p'.2 < y.length; omega⟩
    · obtain ⟨i, hi, rfl⟩ := List.mem_map.mp hp
      have := List.mem_range.mp hi
      exact ⟨by show x.length - t + i < x.length; omega, by show y.length - t + i < y.length; omega⟩
theorem asc_nodup {L : List (Nat × Nat)} (h : asc L) : (L.map (·.1)).Nodup := List.pairwise_map.mpr (List.Pairwise.imp (fun {p q} h => Nat.ne_of_lt h.1) h)
theorem asc_nodup2 {L : List (Nat × Nat)} (h : asc L) : (L.map (·.2)).Nodup := List.pairwise_map.mpr (List.Pairwise.imp (fun {p q} h => Nat.ne_of_lt h.2) h)
theorem kp_len (x y : List AV) : (kp x y).length ≤ x.length := by
  have bh := hd_le x y
  have bt := tl_le x y (hd x y)
  have e1 := inn_lenx x y
  have ki := kpI_len (inn x y x) (inn x y y)
  unfold kp
  simp only [List.length_append, List.length_map, List.length_range]
  omega

open Classical in
noncomputable def sr0 (path : List AV) (a b : AV) : List AV := if a = b then [] else [turnA path a b]
def isArr (a : AV) : Prop := a = prt 2 ∨ a = prt 3
noncomputable def elems : AV → List AV
  | .tup (_ :: l) => l
  | _ => []
open Classical in
noncomputable def sr1 (path : List AV) (a b : AV) : List AV := if a = b then [] else if isArr a ∧ isArr b then ar sr0 path (kp (elems a) (elems b)) (elems a) (elems b) else [turnA path a b]
theorem isArr0 : ¬ isArr (prt 0) := fun h => by
  rcases h with h | h <;> (simp only [prt] at h; injection h with h; injection h with h; injection h with h; exact absurd h (by decide))
theorem isArr1 : ¬ isArr (prt 1) := fun h => by
  rcases h with h | h <;> (simp only [prt] at h; injection h with h; injection h with h; injection h with h; exact absurd h (by decide))
section
variable {prog : Program} {w : World} {B : Heap} {n : Nat} {mg mb : Str → Option Value}
structure Fs (B : Heap) (mg : Str → Option Value) (c2 c3 c4 c7 : Addr) : Prop where
  f2 : Fn B mg 2 c2
  f3 : Fn B mg 3 c3
  f4 : Fn B mg 4 c4
  f7 : Fn B mg 7 c7
theorem ok_int7 (i : Int) : AV.ok 4 (.tup [.str "int", .int i]) = true := .trans (by rfl) (AV.ok_cons (n := 3) (AV.ok_s _ rfl (by decide)) (AV.ok_cons (AV.ok_int _ _) AV.ok_nil))
theorem shape0_c {c2 c3 c4 c7 : Addr} {H : AH} {path : List AV} {i j : Int} {K : AV → AH → Prop} (W : Wd B mg mb) (F : Fs B mg c2 c3 c4 c7)
    (hK : ∀ r H', (∀ e ∈ H, e ∈ H') → (r, .lst (sr0 path (.tup [.str "int", .int i]) (.tup [.str "int", .int j]))) ∈ H' → K (.ref r) H') :
    opV prog w B (n + 1) [.tup path, .tup [.str "int", .int i], .tup [.str "int", .int j]] H (fun vs => call (.ref c7) vs) K :=
  shape_c W F.f7 F.f4 (ok_int7 i) (ok_int7 j) ⟨by decide, by decide⟩ ⟨by simp, by simp⟩ (fun e => absurd e (by decide)) (fun e => if_pos e) (fun e _ => if_neg e) hK
theorem sr0_len (path : List AV) (a b : AV) : (sr0 path a b).length ≤ 1 := by unfold sr0; split <;> simp
theorem shape1_c {c2 c3 c4 c7 : Addr} {H : AH} {path : List AV} {a b : AV} {K : AV → AH → Prop} (W : Wd B mg mb) (F : Fs B mg c2 c3 c4 c7) (ha : ∃ d, d < 4 ∧ a = prt d) (hb : ∃ d, d < 4 ∧ b = prt d) (hp0 : path ≠ []) (hp1 : path.length ≤ 50)
    (hK : ∀ r H', (∀ e ∈ H, e ∈ H') → (r, .lst (sr1 path a b)) ∈ H' → K (.ref r) H') :
    opV prog w B (n + 4) [.tup path, a, b] H (fun vs => call (.ref c7) vs) K := by
  have arrs : ∀ i j : Int, ∀ (H : AH) (p q : Addr) (K : AV → AH → Prop), Has H p [.tup [.str "int", .int i]] → Has H q [.tup [.str "int", .int j]] → (∀ r H', (∀ e ∈ H, e ∈ H') → (r, .lst (ar sr0 path (kp [.tup [.str "int", .int i]] [.tup [.str "int", .int j]]) [.tup [.str "int", .int i]] [.tup [.str "int", .int j]])) ∈ H' → K (.ref r) H') →
      opV prog w B (n + 3) [.tup path, .ref p, .ref q] H (fun vs => call (.ref c4) vs) K := by
    intro i j H p q K hp hq hK
    have k := kp_ok [.tup [.str "int", .int i]] [.tup [.str "int", .int j]]
    refine array_c W F.f2 F.f3 F.f7 F.f4 (fun path u v H K h1 h2 hu hv hK => ?_) (fun path u v _ _ => Nat.le_trans (sr0_len _ _ _) (by decide)) hp0 hp1 (by decide) hp hq (by simp) (by simp) (fun a ha => ?_) (fun a ha => ?_) (asc_nodup k.1) k.2 (Nat.le_trans (kp_len _ _) (by simp)) hK
    · rw [List.mem_singleton.mp hu, List.mem_singleton.mp hv] at hK ⊢
      exact shape0_c W F hK
    · rw [List.mem_singleton.mp ha]; exact ok_int7 i
    · rw [List.mem_singleton.mp ha]; exact ok_int7 j
  obtain ⟨d, hd, rfl⟩ := ha
  obtain ⟨e, he, rfl⟩ := hb
  have oka : ∀ d, d < 4 → AV.ok 4 (prt d) = true := fun d hd => Parts.ok (l := [prt d]) (fun x hx => ⟨d, hd, List.mem_singleton.mp hx⟩) _ (List.mem_singleton.mpr rfl)
  have no1 : ∀ {d e : Nat}, ¬ isArr (prt d) → prt d ≠ prt e → sr1 path (prt d) (prt e) = [turnA path (prt d) (prt e)] := fun h q => by rw [sr1, if_neg q, if_neg fun z => h z.1]
  have no2 : ∀ {d e : Nat}, ¬ isArr (prt e) → prt d ≠ prt e → sr1 path (prt d) (prt e) = [turnA path (prt d) (prt e)] := fun h q => by rw [sr1, if_neg q, if_neg fun z => h z.2]
  have eq1 : ∀ {d e : Nat}, prt d = prt e → sr1 path (prt d) (prt e) = [] := fun q => by rw [sr1, if_pos q]
  have s23 : sr1 path (prt 2) (prt 3) = ar sr0 path (kp [.tup [.str "int", .int 1]] [.tup [.str "int", .int 2]]) [.tup [.str "int", .int 1]] [.tup [.str "int", .int 2]] := by
    rw [sr1, if_neg, if_pos ⟨.inl rfl, .inr rfl⟩]; rfl
    intro q; simp only [prt] at q; injection q with q; injection q with _ q; injection q with q; injection q with q; injection q with _ q; injection q with q; injection q with q; omega
  have s32 : sr1 path (prt 3) (prt 2) = ar sr0 path (kp [.tup [.str "int", .int 2]] [.tup [.str "int", .int 1]]) [.tup [.str "int", .int 2]] [.tup [.str "int", .int 1]] := by
    rw [sr1, if_neg, if_pos ⟨.inr rfl, .inl rfl⟩]; rfl
    intro q; simp only [prt] at q; injection q with q; injection q with _ q; injection q with q; injection q with q; injection q with _ q; injection q with q; injection q with q; omega
  match d, e, hd, he with
  | 0, 0, hd, he => exact shape_c W F.f7 F.f4 (oka 0 hd) (oka 0 he) ⟨by decide, by decide⟩ ⟨by simp, by simp⟩ (fun e => absurd e (by decide)) (eq1 (d := 0) (e := 0)) (fun e _ => no1 (d := 0) (e := 0) isArr0 e) hK
  | 0, 1, hd, he => exact shape_c W F.f7 F.f4 (oka 0 hd) (oka 1 he) ⟨by decide, by decide⟩ ⟨by simp, by simp⟩ (fun e => absurd e (by decide)) (eq1 (d := 0) (e := 1)) (fun e _ => no1 (d := 0) (e := 1) isArr0 e) hK
  | 0, 2, hd, he => exact shape_c W F.f7 F.f4 (oka 0 hd) (oka 2 he) ⟨by decide, by decide⟩ ⟨by simp, by simp⟩ (fun e => absurd e (by decide)) (eq1 (d := 0) (e := 2)) (fun e _ => no1 (d := 0) (e := 2) isArr0 e) hK
  | 0, 3, hd, he => exact shape_c W F.f7 F.f4 (oka 0 hd) (oka 3 he) ⟨by decide, by decide⟩ ⟨by simp, by simp⟩ (fun e => absurd e (by decide)) (eq1 (d := 0) (e := 3)) (fun e _ => no1 (d := 0) (e := 3) isArr0 e) hK
  | 1, 0, hd, he => exact shape_c W F.f7 F.f4 (oka 1 hd) (oka 0 he) ⟨by decide, by decide⟩ ⟨by simp, by simp⟩ (fun e => absurd e (by decide)) (eq1 (d := 1) (e := 0)) (fun e _ => no1 (d := 1) (e := 0) isArr1 e) hK
  | 1, 1, hd, he => exact shape_c W F.f7 F.f4 (oka 1 hd) (oka 1 he) ⟨by decide, by decide⟩ ⟨by simp, by simp⟩ (fun e => absurd e (by decide)) (eq1 (d := 1) (e := 1)) (fun e _ => no1 (d := 1) (e := 1) isArr1 e) hK
  | 1, 2, hd, he => exact shape_c W F.f7 F.f4 (oka 1 hd) (oka 2 he) ⟨by decide, by decide⟩ ⟨by simp, by simp⟩ (fun e => absurd e (by decide)) (eq1 (d := 1) (e := 2)) (fun e _ => no1 (d := 1) (e := 2) isArr1 e) hK
  | 1, 3, hd, he => exact shape_c W F.f7 F.f4 (oka 1 hd) (oka 3 he) ⟨by decide, by decide⟩ ⟨by simp, by simp⟩ (fun e => absurd e (by decide)) (eq1 (d := 1) (e := 3)) (fun e _ => no1 (d := 1) (e := 3) isArr1 e) hK
  | 2, 0, hd, he => exact shape_c W F.f7 F.f4 (oka 2 hd) (oka 0 he) ⟨by decide, by decide⟩ ⟨by simp, by simp⟩ (fun _ e => absurd e (by decide)) (eq1 (d := 2) (e := 0)) (fun e _ => no2 (d := 2) (e := 0) isArr0 e) hK
  | 2, 1, hd, he => exact shape_c W F.f7 F.f4 (oka 2 hd) (oka 1 he) ⟨by decide, by decide⟩ ⟨by simp, by simp⟩ (fun _ e => absurd e (by decide)) (eq1 (d := 2) (e := 1)) (fun e _ => no2 (d := 2) (e := 1) isArr1 e) hK
  | 2, 2, hd, he => exact shape_c W F.f7 F.f4 (oka 2 hd) (oka 2 he) ⟨by decide, by decide⟩ ⟨by simp, by simp⟩ (fun _ _ q => absurd rfl q) (eq1 (d := 2) (e := 2)) (fun e _ => absurd rfl e) hK
  | 2, 3, hd, he => exact shape_c W F.f7 F.f4 (oka 2 hd) (oka 3 he) ⟨by decide, by decide⟩ ⟨by simp, by simp⟩ (fun _ _ _ => s23 ▸ arrs 1 2) (eq1 (d := 2) (e := 3)) (fun _ q => absurd ⟨rfl, rfl⟩ q) hK
  | 3, 0, hd, he => exact shape_c W F.f7 F.f4 (oka 3 hd) (oka 0 he) ⟨by decide, by decide⟩ ⟨by simp, by simp⟩ (fun _ e => absurd e (by decide)) (eq1 (d := 3) (e := 0)) (fun e _ => no2 (d := 3) (e := 0) isArr0 e) hK
  | 3, 1, hd, he => exact shape_c W F.f7 F.f4 (oka 3 hd) (oka 1 he) ⟨by decide, by decide⟩ ⟨by simp, by simp⟩ (fun _ e => absurd e (by decide)) (eq1 (d := 3) (e := 1)) (fun e _ => no2 (d := 3) (e := 1) isArr1 e) hK
  | 3, 2, hd, he => exact shape_c W F.f7 F.f4 (oka 3 hd) (oka 2 he) ⟨by decide, by decide⟩ ⟨by simp, by simp⟩ (fun _ _ _ => s32 ▸ arrs 2 1) (eq1 (d := 3) (e := 2)) (fun _ q => absurd ⟨rfl, rfl⟩ q) hK
  | 3, 3, hd, he => exact shape_c W F.f7 F.f4 (oka 3 hd) (oka 3 he) ⟨by decide, by decide⟩ ⟨by simp, by simp⟩ (fun _ _ q => absurd rfl q) (eq1 (d := 3) (e := 3)) (fun e _ => absurd rfl e) hK
  | d + 4, _, hd, _ => omega
  | _, e + 4, _, he => omega
end

theorem AV.ok_up : ∀ (n : Nat) (a : AV), AV.ok n a = true → AV.ok (n + 1) a = true := by
  intro n
  induction n with
  | zero =>
    intro a h
    cases a <;> simp_all [AV.ok]
  | succ n ih =>
    intro a h
    match a, h with
    | .tup l, h =>
      rw [AV.ok_tup] at h ⊢
      exact List.all_eq_true.mpr fun x hx => ih x (List.all_eq_true.mp h x hx)
    | .none, h => exact AV.ok_none _
    | .int _, h => exact AV.ok_int _ _
    | .str _, h => rw [AV.ok_str] at h ⊢; exact h
    | .bool _, h => simp [AV.ok] at h
    | .ref _, h => simp [AV.ok] at h
theorem flat_len {f : Nat → List AV} {c : Nat} (h : ∀ i, (f i).length ≤ c) : ∀ m, ((List.range m).flatMap f).length ≤ m * c
  | 0 => by simp
  | m + 1 => by
    have := flat_len h m
    have h2 := h m
    rw [List.range_succ, List.flatMap_append, List.length_append, Nat.succ_mul]
    have e : ([m].flatMap f) = f m := by simp
    rw [e]; omega
theorem ar_len {sr : List AV → AV → AV → List AV} {path : List AV} {P : List (Nat × Nat)} {x y : List AV} {c : Nat} (hc : 1 ≤ c) (h : ∀ path u v, (sr path u v).length ≤ c) : (ar sr path P x y).length ≤ x.length * c + y.length := by
  have h1 : ∀ i, (arL sr path P x y i).length ≤ c := fun i => by
    unfold arL; split
    · exact h _ _ _
    · exact hc
  have h2 := flat_len h1 x.length
  have h3 : (arR path P y y.length).length ≤ y.length := by
    unfold arR
    rw [List.length_map]
    exact Nat.le_trans (List.length_filter_le _ _) (by rw [List.length_range]; exact Nat.le_refl _)
  unfold ar
  rw [List.length_append]; omega
theorem sr1_len (path : List AV) (a b : AV) : (sr1 path a b).length ≤ 100 := by
  unfold sr1
  split
  · simp
  · split
    · rename_i h
      have e : ∀ a, isArr a → (elems a).length = 1 := fun a h => by rcases h with rfl | rfl <;> rfl
      refine Nat.le_trans (ar_len (c := 1) (Nat.le_refl _) fun p u v => sr0_len p u v) ?_
      rw [e _ h.1, e _ h.2]; decide
    · simp
def pok (path : List AV) : Prop := ∀ a ∈ path, AV.ok 4 a = true
theorem pok_int {path : List AV} (h : pok path) (i : Int) : pok (path ++ [.int i]) := fun a ha => by
  rcases List.mem_append.mp ha with ha | ha
  · exact h a ha
  · rw [List.mem_singleton.mp ha]; exact AV.ok_int _ _
theorem ok_row {path : List AV} {s : Str} {a b : AV} (hp : pok path) (hs : PyData.strOk s = true) (ha : AV.ok 4 a = true) (hb : AV.ok 4 b = true) : AV.ok 6 (.tup [.tup path, .str s, a, b]) = true :=
  AV.ok_cons (n := 5) (.trans (AV.ok_tup (n := 4)) (List.all_eq_true.mpr hp)) (AV.ok_cons ((AV.ok_str _ _).trans hs) (AV.ok_cons (AV.ok_up _ _ ha) (AV.ok_cons (AV.ok_up _ _ hb) AV.ok_nil)))
theorem ok_turn {path : List AV} {a b : AV} (hp : pok path) (ha : AV.ok 4 a = true) (hb : AV.ok 4 b = true) : AV.ok 6 (turnA path a b) = true := ok_row hp (strOk_of _ _ rfl (by decide)) ha hb
theorem ar_ok {sr : List AV → AV → AV → List AV} {path : List AV} {P : List (Nat × Nat)} {x y : List AV} (hp : pok path) (hx : ∀ a ∈ x, AV.ok 4 a = true) (hy : ∀ a ∈ y, AV.ok 4 a = true) (hB : ∀ e ∈ P, e.1 < x.length ∧ e.2 < y.length)
    (h : ∀ path u v, pok path → u ∈ x → v ∈ y → ∀ r ∈ sr path u v, AV.ok 6 r = true) : ∀ r ∈ ar sr path P x y, AV.ok 6 r = true := by
  intro r hr
  rcases List.mem_append.mp hr with hr | hr
  · obtain ⟨i, hi, hr⟩ := List.mem_flatMap.mp hr
    have hi := List.mem_range.mp hi
    unfold arL at hr
    split at hr
    · rename_i j hj
      have hj2 := (hB _ (par_mem hj)).2
      rw [getD_get hi, getD_get hj2] at hr
      exact h _ _ _ (pok_int hp _) (List.getElem_mem _) (List.getElem_mem _) r hr
    · rw [List.mem_singleton.mp hr, goneA, getD_get hi]
      exact ok_row (pok_int hp _) (strOk_of _ _ rfl (by decide)) (hx _ (List.getElem_mem _)) (AV.ok_none _)
  · obtain ⟨i, hi, rfl⟩ := List.mem_map.mp hr
    have hi := List.mem_range.mp (List.mem_filter.mp hi).1
    rw [addA, getD_get hi]
    exact ok_row (pok_int hp _) (strOk_of _ _ rfl (by decide)) (AV.ok_none _) (hy _ (List.getElem_mem _))
theorem sr0_ok {path : List AV} {a b : AV} (hp : pok path) (ha : AV.ok 4 a = true) (hb : AV.ok 4 b = true) : ∀ r ∈ sr0 path a b, AV.ok 6 r = true := by
  intro r hr
  unfold sr0 at hr
  split at hr
  · exact absurd hr List.not_mem_nil
  · rw [List.mem_singleton.mp hr]; exact ok_turn hp ha hb
theorem elems_ok {a : AV} (h : isArr a) : ∀ u ∈ elems a, AV.ok 4 u = true := by
  rcases h with rfl | rfl <;> (intro u hu; rw [List.mem_singleton.mp hu]; exact ok_int7 _)
theorem sr1_ok {path : List AV} {a b : AV} (hp : pok path) (ha : AV.ok 4 a = true) (hb : AV.ok 4 b = true) : ∀ r ∈ sr1 path a b, AV.ok 6 r = true := by
  intro r hr
  unfold sr1 at hr
  split at hr
  · exact absurd hr List.not_mem_nil
  · split at hr
    · rename_i h
      have k := kp_ok (elems a) (elems b)
      exact ar_ok hp (elems_ok h.1) (elems_ok h.2) k.2 (fun path u v hp hu hv => sr0_ok hp (elems_ok h.1 u hu) (elems_ok h.2 v hv)) r hr
    · rw [List.mem_singleton.mp hr]; exact ok_turn hp ha hb
section
variable {prog : Program} {w : World} {B : Heap} {n : Nat} {mg mb : Str → Option Value}
theorem array1_c {c2 c3 c4 c7 : Addr} {H : AH} {p q : Addr} {path x y : List AV} {K : AV → AH → Prop} (W : Wd B mg mb) (F : Fs B mg c2 c3 c4 c7) (hp0 : path ≠ []) (hp1 : path.length ≤ 10)
    (hx : Has H p x) (hy : Has H q y) (lx : x.length ≤ 100) (ly : y.length ≤ 100) (ox : Parts x) (oy : Parts y)
    (hK : ∀ r H', (∀ e ∈ H, e ∈ H') → (r, .lst (ar sr1 path (kp x y) x y)) ∈ H' → K (.ref r) H') :
    opV prog w B (n + 5) [.tup path, .ref p, .ref q] H (fun vs => call (.ref c4) vs) K := by
  have k := kp_ok x y
  exact array_c W F.f2 F.f3 F.f7 F.f4 (fun path u v H K h1 h2 hu hv hK => shape1_c W F (ox u hu) (oy v hv) h1 (by omega) hK) (fun path u v _ _ => sr1_len _ _ _) hp0 hp1 (by decide) hx hy lx ly ox.ok oy.ok (asc_nodup k.1) k.2 (Nat.le_trans (kp_len _ _) (by omega)) hK
theorem R_m1 {env : Env} {V : Vars} {H : AH} {p pos : Pos} {e : Expr} {K : Src → AH → Prop} (W : Wd B mg mb) (P : Plain env)
    (hx : env.kindOf (Str.ofString "range") = some .globalImplicit) (he : starEach [e] env = (false, eval e env) :: starEach [] env)
    (h : wpV prog w B n env V H (eval e env) (fun a H₁ => ∃ i : Int, a = .int i ∧ (i = -1 ∧ K (.rng 0 0 1) H₁ ∨ ∃ m : Nat, i = m ∧ m ≤ 1000000 ∧ K (.rng 0 m 1) H₁))) : wpSrc prog w B n env V H (.Call (.Name (Str.ofString "range") p) [e] [] pos) K := fun A s r i => by
  refine wpAny_Call_NameR (name_builtin W.G P i (W.nb _ (by decide)) range_name (by decide) hx (by decide) ?_)
  refine PyProof.Rows.callWith_type1 ?_ he rfl
  rw [he]
  refine spliced_cons (wpAny_mono (h A s r i) (fun v s₁ ⟨a, H₁, ⟨m, e, k⟩, h2, h3⟩ => spliced_nil ?_) fun _ _ e => e)
  subst e; obtain ⟨t, rfl⟩ := h2.toInt
  rcases k with ⟨rfl, k⟩ | ⟨m, rfl, hm, k⟩
  · refine call_range_1 ⟨_, _, k, ?_, h3.trans (.grown (h3.hi i.hi) push_keeps)⟩
    exact ⟨_, _, _, _, _, rfl, Heap.get?_push_size _ rfl, by decide, by decide⟩
  · refine call_range_1 ⟨_, _, k, ?_, h3.trans (.grown (h3.hi i.hi) push_keeps)⟩
    exact ⟨_, _, _, _, _, rfl, Heap.get?_push_size _ rfl, (small_up hm).1, (small_up hm).2⟩
theorem R_m1' {env : Env} {V : Vars} {H : AH} {p pos : Pos} {e : Expr} {K : Src → AH → Prop} (W : Wd B mg mb) (P : Plain env)
    (hx : env.kindOf (Str.ofString "range") = some .globalImplicit) (he : starEach [e] env = (false, eval e env) :: starEach [] env)
    (h : wpV prog w B n env V H (eval e env) (fun a H₁ => ∃ n : Nat, a = .int ((n : Int) - 1) ∧ n ≤ 1000 ∧ ∀ m, m + 1 ≤ n ∨ m = 0 → K (.rng 0 m 1) H₁)) : wpSrc prog w B n env V H (.Call (.Name (Str.ofString "range") p) [e] [] pos) K :=
  R_m1 W P hx he (h.mono fun a H₁ ⟨n, e, hn, k⟩ => ⟨_, e, by
    by_cases q : n = 0
    · exact .inl ⟨by omega, k 0 (.inr rfl)⟩
    · exact .inr ⟨n - 1, by omega, by omega, k _ (.inl (by omega))⟩⟩)
theorem ascend_c {c : Addr} {H : AH} {z : Addr} {M : List (Nat × Nat)} {K : AV → AH → Prop} (W : Wd B mg mb) (F : Fn B mg 14 c) (hz : Has H z (M.map pt)) (ha : asc M) (hl : M.length ≤ 1000) (hK : K (.bool true) H) :
    opV prog w B (n + 1) [.ref z] H (fun vs => call (.ref c) vs) K := by
  refine enter W F ⟨rfl, rfl, rfl⟩ (names := ["pairs"]) (by decide) rfl (fun _ _ _ _ _ _ _ => BindsTo.of_eq rfl) (fun _ => ⟨.inl rfl, trivial⟩) fun L cdv P => ?_
  dsimp only [List.zip_cons_cons, List.zip_nil_left]
  walk_at "wb"
  refine S_for' P (fun _ => rfl) ?_
  refine R_m1' W P rfl rfl ?_
  repeat walk_at "wk"
  have gets : ∀ i (h : i < M.length), (M.map pt)[i]? = some (.tup [.int M[i].1, .int M[i].2]) := fun i h => by rw [List.getElem?_map, List.getElem?_eq_getElem h]; rfl
  have e := List.length_map (as := M) pt
  refine ⟨by omega, fun m hm => ?_⟩
  · rw [e] at hm
    refine forUp (.loc rfl) (fun i V' H' => Vars.at_ V' "pairs" (.ref z) ∧ H' = H) ⟨rfl, rfl⟩ ?_ ?_
    · rintro i V' H' hi ⟨v1, rfl⟩
      have l1 : i < M.length := by omega
      have l2 : i + 1 < M.length := by omega
      have lt := List.pairwise_iff_getElem.mp ha i (i + 1) l1 l2 (Nat.lt_succ_self _)
      repeat walk_at "wk"
      refine G_list (j := i) hz rfl (gets i l1) (fun _ _ => rfl) (by omega) ?_
      repeat walk_at "wk"
      refine G_list (j := i + 1) hz rfl (gets (i + 1) l2) (fun _ _ => rfl) (by omega) ?_
      repeat walk_at "wk"
      refine dcf_ (fun h => ?_) (fun h => absurd lt.1 (by omega))
      repeat walk_at "wk"
      refine G_list (j := i) hz rfl (gets i l1) (fun _ _ => rfl) (by omega) ?_
      repeat walk_at "wk"
      refine G_list (j := i + 1) hz rfl (gets (i + 1) l2) (fun _ _ => rfl) (by omega) ?_
      repeat walk_at "wk"
      refine dcf_ (fun h => ?_) (fun h => absurd lt.2 (by omega))
      repeat walk_at "wk"
      exact .here ⟨v1, rfl⟩
    · rintro V' H' ⟨v1, rfl⟩
      repeat walk_at "wk"
      exact hK
end

noncomputable def ptn (P : List (Nat × Nat)) (k : Nat) : List AV := (P.filter fun p => p.1 == k).map fun p => .int p.2
theorem ptn_snoc (P : List (Nat × Nat)) (a b k : Nat) : ptn (P ++ [(a, b)]) k = ptn P k ++ (if a = k then [.int b] else []) := by
  unfold ptn
  rw [List.filter_append, List.map_append]
  congr 1
  by_cases q : a = k
  · rw [if_pos q, List.filter_cons_of_pos (by simpa using q)]; rfl
  · rw [if_neg q, List.filter_cons_of_neg (by simpa using q)]; rfl
theorem ptn_none {P : List (Nat × Nat)} {k : Nat} (h : par P k = none) : ptn P k = [] := by
  unfold par at h
  rw [Option.map_eq_none_iff, List.find?_eq_none] at h
  unfold ptn
  rw [List.filter_eq_nil_iff.mpr h]; rfl
theorem ptn_some {P : List (Nat × Nat)} {k r : Nat} (h : par P k = some r) : ∃ l, ptn P k = .int r :: l := by
  unfold par at h
  obtain ⟨p, h1, h2⟩ := Option.map_eq_some_iff.mp h
  rw [← List.head?_filter] at h1
  unfold ptn
  cases e : P.filter fun p => p.1 == k with
  | nil => rw [e] at h1; cases h1
  | cons a l =>
    rw [e] at h1; cases h1
    exact ⟨_, by rw [List.map_cons, h2]⟩
theorem ptn_ok (P : List (Nat × Nat)) (k : Nat) : ∀ a ∈ ptn P k, AV.ok 4 a = true := fun a ha => by
  obtain ⟨p, _, rfl⟩ := List.mem_map.mp ha
  exact AV.ok_int _ _
section
variable {prog : Program} {w : World} {B : Heap} {n : Nat} {mg mb : Str → Option Value}
theorem due_c {c2 c3 c4 c7 c : Addr} {H : AH} {z p q : Addr} {Q : List (Nat × Nat)} {x y : List AV} {K : AV → AH → Prop} (W : Wd B mg mb) (F : Fs B mg c2 c3 c4 c7) (F' : Fn B mg 15 c)
    (hz : Has H z (Q.map pt)) (hx : Has H p x) (hy : Has H q y) (lx : x.length ≤ 100) (ly : y.length ≤ 100) (ox : Parts x) (oy : Parts y) (hB : ∀ e ∈ Q, e.1 < x.length ∧ e.2 < y.length) (hQ : Q.length ≤ 1000)
    (hK : ∀ r H', (∀ e ∈ H, e ∈ H') → (r, .lst (ar sr1 [.str "K"] Q x y)) ∈ H' → K (.ref r) H') :
    opV prog w B (n + 5) [.ref z, .ref p, .ref q] H (fun vs => call (.ref c) vs) K := by
  refine enter W F' ⟨rfl, rfl, rfl⟩ (names := ["pairs", "one", "other"]) (by decide) rfl (fun _ _ _ _ _ _ _ _ _ => BindsTo.of_eq rfl) (fun _ => ⟨.inl rfl, .inl rfl, .inr ⟨rfl, rfl⟩, trivial⟩) fun L cdv P => ?_
  have lQ : (Q.map pt).length = Q.length := List.length_map _
  dsimp only [List.zip_cons_cons, List.zip_nil_left]
  walk_at "wb"
  repeat walk_at "wk"
  refine fun d => S_nd fun nd => ?_
  rw [List.map_cons, List.nodup_cons] at nd
  have nr : ∀ e ∈ H, e.1 ≠ d := fun e he q => nd.1 (q ▸ List.mem_map.mpr ⟨e, he, rfl⟩)
  have hx2 : Has ((d, .lst []) :: H) p x := hx.tl
  have rest : ∀ V' H3, Vars.at_ V' "pairs" (.ref z) → Vars.at_ V' "other" (.ref q) → Vars.at_ V' "due" (.ref d) → (∀ e ∈ H, e ∈ H3) → (∃ acc : List AV, acc.length ≤ 10000 ∧ acc = (List.range x.length).flatMap (arL sr1 [.str "K"] Q x y) ∧ (d, .lst acc) ∈ H3) → wpS prog w B (n + 4) (senv 15 L c cdv) V' H3 ((bodyOf (defAt 15)).drop 2) (funK K) := by
    rintro V' H3 v1 v2 v3 k3 ⟨acc, la, ha, hr⟩
    have hz3 : Has H3 z (Q.map pt) := hz.imp (k3 _) (k3 _)
    walk_at "wb"
    refine S_assign P (.cell rfl rfl) rfl ?_
    refine V_comp (by decide) rfl (by decide) rfl (fun _ => rfl) (V' := []) (fun C => sees P _ rfl rfl rfl rfl trivial trivial) ?_
    refine R_val ?_
    repeat walk_at "wk"
    refine compLst hz3 P rfl (by omega) (fun i ys H' => ys = (Q.take i).map (fun p => AV.int p.2) ∧ ∀ e ∈ H3, e ∈ H') ⟨rfl, fun e h => h⟩ (fun i ys H' j => hz3.imp (j.2 _) (j.2 _)) (fun C i e ys H' P' hi j => ?_) (fun ys H4 j t => ?_)
    · rw [List.getElem?_map] at hi
      obtain ⟨⟨u, v⟩, hu, rfl⟩ := Option.map_eq_some_iff.mp hi
      refine turn2 rfl rfl ?_
      repeat walk_at "wk"
      exact ⟨by rw [j.1, List.take_add_one, hu, List.map_append]; rfl, j.2⟩
    obtain ⟨j1, k4⟩ := j
    rw [lQ, List.take_length] at j1
    have hy4 : Has ((t, AO.lst ys) :: H4) q y := Has.tl (hy.imp (fun h => k4 _ (k3 _ h)) (fun h => k4 _ (k3 _ h)))
    repeat walk_at "wk"
    refine V_comp (by decide) rfl (by decide) rfl (fun _ => rfl) (V' := [("other", .ref q), ("taken", .ref t)]) (fun C => sees P _ rfl rfl rfl rfl ⟨rfl, rfl, trivial⟩ ⟨⟨v2, rfl, rfl⟩, ⟨rfl, rfl, rfl⟩, trivial⟩) ?_
    repeat walk_at "wk"
    refine ⟨by walk_at "lt", ?_⟩
    refine compUp P rfl (by walk_at "lt") (fun i zs H' => zs = arR [.str "K"] Q y i ∧ ∀ e ∈ ((t, AO.lst ys) :: H4), e ∈ H') ⟨rfl, fun e h => h⟩ (fun C i zs H' P' hi j => ?_) (fun zs H5 j r => ?_)
    · obtain ⟨e1, k5⟩ := j
      have hy5 : Has H' q y := hy4.imp (k5 _) (k5 _)
      have hs : arR [.str "K"] Q y (i + 1) = arR [.str "K"] Q y i ++ (if tk Q i = true then [] else [addA [.str "K"] y i]) := by
        unfold arR
        rw [List.range_succ, List.filter_append, List.map_append]
        congr 1
        by_cases ht : tk Q i = true
        · rw [if_pos ht, List.filter_cons_of_neg (by simp [ht])]; rfl
        · rw [if_neg ht, List.filter_cons_of_pos (by simp [ht])]; rfl
      have ht : tk Q i = true ↔ AV.int i ∈ ys := by
        rw [j1, tk, List.contains_iff_mem]
        constructor
        · intro h
          obtain ⟨p, hp, e⟩ := List.mem_map.mp h
          exact List.mem_map.mpr ⟨p, hp, by rw [e]⟩
        · intro h
          obtain ⟨p, hp, e⟩ := List.mem_map.mp h
          exact List.mem_map.mpr ⟨p, hp, by injection e with e; omega⟩
      refine turn1i rfl ?_
      repeat walk_at "wk"
      refine O_notInL 4 (.inl (k5 _ (.head _))) (fun a ha => by rw [j1] at ha; obtain ⟨p, _, rfl⟩ := List.mem_map.mp ha; exact AV.ok_int _ _) (AV.ok_int _ _) (by decide) fun b hb => ?_
      repeat walk_at "wk"
      cases b with
      | true =>
        rw [if_neg (fun q => hb.mp rfl (ht.mp q))] at hs
        refine tt_ ?_
        repeat walk_at "wk"
        refine G_at hy5 i rfl hi (by walk_at "lt") (fun _ _ => rfl) ?_
        repeat walk_at "wk"
        refine ⟨?_, k5⟩
        rw [hs, e1, addA, getD_get hi]; rfl
      | false =>
        rw [if_pos (ht.mpr (Classical.byContradiction fun q => absurd (hb.mpr q) (by decide))), List.append_nil] at hs
        exact ff_ ⟨by rw [hs]; exact e1, k5⟩
    · obtain ⟨e1, k5⟩ := j
      refine O_addL (.tail _ (k5 _ (.tail _ (k4 _ hr)))) (.head _) ?_ fun r2 => ?_
      · rw [e1, arR, List.length_map]
        have := List.length_filter_le (fun r => !tk Q r) (List.range y.length)
        rw [List.length_range] at this
        omega
      · refine hK r2 _ (fun e he => .tail _ (.tail _ (k5 _ (.tail _ (k4 _ (k3 e he)))))) ?_
        rw [ar, ← ha, ← e1]; exact .head _
  refine S_for' P (fun _ => rfl) ?_
  repeat walk_at "wk"
  refine ⟨by walk_at "lt", ?_⟩
  refine forUp (.cell rfl rfl) (fun i V' H' => Vars.at_ V' "pairs" (.ref z) ∧ Vars.at_ V' "one" (.ref p) ∧ Vars.at_ V' "other" (.ref q) ∧ Vars.at_ V' "due" (.ref d) ∧ (∀ e ∈ H, e ∈ H') ∧ ∃ zs : List AV, zs.length ≤ 100 * i ∧ zs = (List.range i).flatMap (arL sr1 [.str "K"] Q x y) ∧ (d, .lst zs) ∈ H') ⟨rfl, rfl, rfl, rfl, fun e h => .tail _ h, [], Nat.le_refl _, rfl, .head _⟩ ?_ ?_
  · rintro i V' H3 hi ⟨v1, v2, v3, v4, k3, zs, lz, hzs, hr⟩
    have hz3 : Has H3 z (Q.map pt) := hz.imp (k3 _) (k3 _)
    have hs : (List.range (i + 1)).flatMap (arL sr1 [.str "K"] Q x y) = (List.range i).flatMap (arL sr1 [.str "K"] Q x y) ++ arL sr1 [.str "K"] Q x y i := by
      rw [List.range_succ, List.flatMap_append]; simp
    refine S_assignComp P rfl rfl (by decide) rfl (by decide) rfl (fun _ => rfl) (V' := [("left", .int i)]) (fun C => sees P _ rfl rfl rfl rfl ⟨rfl, trivial⟩ ⟨⟨rfl, rfl, rfl⟩, trivial⟩) ?_
    refine R_val ?_
    repeat walk_at "wk"
    refine compLst hz3 P rfl (by omega) (fun k ys H' => ys = ptn (Q.take k) i ∧ ∀ e ∈ H3, e ∈ H') ⟨rfl, fun e h => h⟩ (fun i ys H' j => hz3.imp (j.2 _) (j.2 _)) (fun C k e ys H' P' hk j => ?_) (fun ys H4 j t => ?_)
    · rw [List.getElem?_map] at hk
      obtain ⟨⟨u, v⟩, hu, rfl⟩ := Option.map_eq_some_iff.mp hk
      have ht : Q.take (k + 1) = Q.take k ++ [(u, v)] := by rw [List.take_add_one, hu]; rfl
      refine turn2i rfl rfl ?_
      repeat walk_at "wk"
      refine dc_ (fun h => ?_) (fun h => ?_)
      · repeat walk_at "wk"
        refine ⟨?_, j.2⟩
        rw [ht, ptn_snoc, if_pos (by omega), ← j.1]
      · refine ⟨?_, j.2⟩
        rw [ht, ptn_snoc, if_neg (by omega), List.append_nil]; exact j.1
    obtain ⟨e1, k4⟩ := j
    rw [lQ, List.take_length] at e1
    have k4' : ∀ e ∈ H, e ∈ ((t, AO.lst ys) :: H4) := fun e he => .tail _ (k4 _ (k3 e he))
    have hx4 : Has ((t, AO.lst ys) :: H4) p x := hx.imp (k4' _) (k4' _)
    have hy4 : Has ((t, AO.lst ys) :: H4) q y := hy.imp (k4' _) (k4' _)
    have hr4 : (d, .lst zs) ∈ ((t, AO.lst ys) :: H4) := .tail _ (k4 _ hr)
    repeat walk_at "wk"
    refine fun em => ?_
    refine O_eqL 4 (.inl (.tail _ (.head _))) (by rw [e1]; exact ptn_ok _ _) (.inl (.head _)) (fun a h => absurd h List.not_mem_nil) (by decide) fun b hb => ?_
    repeat walk_at "wk"
    cases hp : par Q i with
    | none =>
      have e2 := ptn_none hp
      obtain rfl : b = true := hb.mpr (e1.trans e2)
      refine tt_ ?_
      repeat walk_at "wk"
      obtain ⟨H5, u⟩ := Upd.of_mem (.lst (zs ++ [goneA [.str "K"] x i])) (show (d, AO.lst zs) ∈ ((em, AO.lst []) :: (t, AO.lst ys) :: H4) from .tail _ hr4)
      refine ⟨_, _, rfl, .tail _ hr4, ?_⟩
      repeat walk_at "wk"
      refine G_at hx4.tl i rfl hi (by walk_at "lt") (fun _ _ => rfl) ?_
      repeat walk_at "wk"
      rw [goneA, getD_get hi] at u
      refine ⟨_, H5, u, by omega, ?_⟩
      repeat walk_at "wk"
      refine .here ⟨v1, v2, v3, v4, fun e he => u.keep (q := e.1) (x := e.2) (.tail _ (k4' e he)) (nr e he), _, ?_, ?_, u.mem'⟩
      · rw [List.length_append]; simp only [List.length_cons, List.length_nil]; omega
      · rw [hs, hzs]
        congr 1
        unfold arL
        rw [hp]
        show _ = [goneA [.str "K"] x i]
        rw [goneA, getD_get hi]
    | some r =>
      obtain ⟨l, e2⟩ := ptn_some hp
      have hr2 := (hB _ (par_mem hp)).2
      obtain rfl : b = false := by
        cases b with
        | false => rfl
        | true => have := hb.mp rfl; rw [e1, e2] at this; cases this
      refine ff_ ?_
      repeat walk_at "wk"
      refine ⟨_, _, rfl, .tail _ hr4, ?_⟩
      refine V_fn W P F.f7 rfl rfl (by decide) rfl ?_
      repeat walk_at "wk"
      refine G_at hx4.tl i rfl hi (by walk_at "lt") (fun _ _ => rfl) ?_
      repeat walk_at "wk"
      refine G_list (j := 0) (l := ys) (.inl (.tail _ (.head _))) rfl (by rw [e1, e2]; rfl) (fun _ _ => rfl) (by omega) ?_
      refine G_at hy4.tl r rfl hr2 (by walk_at "lt") (fun _ _ => rfl) ?_
      repeat walk_at "wk"
      refine shape1_c W F (ox _ (List.getElem_mem _)) (oy _ (List.getElem_mem _)) (by simp) (by simp) fun t2 H5 k5 ht5 => ?_
      have hl : (sr1 [.str "K", .int i] x[i] y[r]).length ≤ 100 := sr1_len _ _ _
      generalize hk : sr1 [.str "K", .int i] x[i] y[r] = kk5 at hl ht5
      obtain ⟨H6, u⟩ := Upd.of_mem (.lst (zs ++ kk5)) (k5 _ (.tail _ hr4))
      refine ⟨_, _, _, H6, rfl, ht5, u, by omega, ?_⟩
      repeat walk_at "wk"
      refine .here ⟨v1, v2, v3, v4, fun e he => u.keep (q := e.1) (x := e.2) (k5 _ (.tail _ (k4' e he))) (nr e he), _, ?_, ?_, u.mem'⟩
      · rw [List.length_append]; omega
      · rw [hs, hzs]
        congr 1
        unfold arL
        rw [hp]
        show _ = sr1 ([.str "K"] ++ [.int i]) (x.getD i .none) (y.getD r .none)
        rw [getD_get hi, getD_get hr2]
        exact hk.symm
  · rintro V' H3 ⟨v1, v2, v3, v4, k3, zs, lz, hzs, hr⟩
    exact rest V' H3 v1 v3 v4 k3 ⟨zs, by omega, hzs, hr⟩
end

theorem lc_ge : ∀ (m : Nat) (x y l : List AV), x.length + y.length ≤ m → l.Sublist x → l.Sublist y → l.length ≤ lc x y := by
  intro m
  induction m with
  | zero =>
    intro x y l h h1 h2
    have := h1.length_le
    omega
  | succ m ih =>
    intro x y l h h1 h2
    match x, y with
    | [], y => have := h1.length_le; simp only [List.length_nil] at this; omega
    | a :: x, [] => have := h2.length_le; simp only [List.length_nil] at this; omega
    | a :: x, b :: y =>
      simp only [List.length_cons] at h
      by_cases e : a = b
      · rw [lc_cons e]
        cases l with
        | nil => simp
        | cons c l =>
          have t1 : l.Sublist x := h1.tail
          have t2 : l.Sublist y := h2.tail
          have := ih x y l (by omega) t1 t2
          simp only [List.length_cons]; omega
      · rw [lc_ne e]
        cases h1 with
        | cons _ h1 => exact Nat.le_trans (ih x (b :: y) l (by simp only [List.length_cons]; omega) h1 h2) (Nat.le_max_left _ _)
        | cons_cons _ h1 =>
          cases h2 with
          | cons _ h2 => exact Nat.le_trans (ih (a :: x) y _ (by simp only [List.length_cons]; omega) (h1.cons_cons a) h2) (Nat.le_max_right _ _)
          | cons_cons _ h2 => exact absurd rfl e
theorem lc_ex : ∀ (m : Nat) (x y : List AV), x.length + y.length ≤ m → ∃ l : List AV, l.Sublist x ∧ l.Sublist y ∧ l.length = lc x y := by
  intro m
  induction m with
  | zero =>
    intro x y h
    cases x with
    | nil => exact ⟨[], List.nil_sublist _, List.nil_sublist _, by rw [lc_nil']; rfl⟩
    | cons a x => simp only [List.length_cons] at h; omega
  | succ m ih =>
    intro x y h
    match x, y with
    | [], y => exact ⟨[], List.nil_sublist _, List.nil_sublist _, by rw [lc_nil']; rfl⟩
    | a :: x, [] => exact ⟨[], List.nil_sublist _, List.nil_sublist _, by rw [lc_nil]; rfl⟩
    | a :: x, b :: y =>
      simp only [List.length_cons] at h
      by_cases e : a = b
      · subst e
        obtain ⟨l, h1, h2, h3⟩ := ih x y (by omega)
        exact ⟨a :: l, h1.cons_cons a, h2.cons_cons a, by rw [lc_cons rfl, List.length_cons, h3]⟩
      · rw [lc_ne e]
        by_cases c : lc (a :: x) y ≤ lc x (b :: y)
        · obtain ⟨l, h1, h2, h3⟩ := ih x (b :: y) (by simp only [List.length_cons]; omega)
          exact ⟨l, h1.cons a, h2, by omega⟩
        · obtain ⟨l, h1, h2, h3⟩ := ih (a :: x) y (by simp only [List.length_cons]; omega)
          exact ⟨l, h1, h2.cons b, by omega⟩
theorem lc_max {x y l : List AV} (h1 : l.Sublist x) (h2 : l.Sublist y) : l.length ≤ lc x y := lc_ge _ x y l (Nat.le_refl _) h1 h2
theorem lc_is (x y : List AV) : ∃ l : List AV, l.Sublist x ∧ l.Sublist y ∧ l.length = lc x y := lc_ex _ x y (Nat.le_refl _)
theorem lc_rev_le (x y : List AV) : lc x y ≤ lc x.reverse y.reverse := by
  obtain ⟨l, h1, h2, h3⟩ := lc_is x y
  rw [← h3, ← List.length_reverse]
  exact lc_max h1.reverse h2.reverse
theorem lc_rev (x y : List AV) : lc x.reverse y.reverse = lc x y := by
  have h1 := lc_rev_le x y
  have h2 := lc_rev_le x.reverse y.reverse
  rw [List.reverse_reverse, List.reverse_reverse] at h2
  omega
theorem lc_pre (u x y : List AV) : lc (u ++ x) (u ++ y) = u.length + lc x y := by
  induction u with
  | nil => simp
  | cons a u ih => rw [List.cons_append, List.cons_append, lc_cons rfl, ih, List.length_cons]; omega
theorem lc_suf (x y v : List AV) : lc (x ++ v) (y ++ v) = lc x y + v.length := by
  rw [← lc_rev, List.reverse_append, List.reverse_append, lc_pre, lc_rev, List.length_reverse]; omega
/-! the search through all rows -/
theorem greedy (y : List AV) : ∀ r : List AV, y.foldl stepG r = [] ↔ r.Sublist y := by
  induction y with
  | nil => intro r; exact ⟨fun h => by rw [List.foldl_nil] at h; rw [h]; exact .slnil, fun h => List.sublist_nil.mp h⟩
  | cons b y ih =>
    intro r
    rw [List.foldl_cons, ih]
    cases r with
    | nil => rw [stepG]; exact ⟨fun _ => List.nil_sublist _, fun _ => List.nil_sublist _⟩
    | cons a r =>
      rw [stepG]
      by_cases e : a = b
      · rw [if_pos e]; subst e
        exact ⟨fun h => h.cons_cons a, fun h => h.tail⟩
      · rw [if_neg e]
        refine ⟨fun h => h.cons b, fun h => ?_⟩
        cases h with
        | cons _ h => exact h
        | cons_cons _ h => exact absurd rfl e
theorem sel_all {l x : List AV} (h : l.Sublist x) : ∃ c, c < 2 ^ x.length ∧ sel c x = l := by
  induction h with
  | slnil => exact ⟨0, by decide, rfl⟩
  | cons a h ih =>
    obtain ⟨c, h1, h2⟩ := ih
    refine ⟨2 * c, by rw [List.length_cons, Nat.pow_succ]; omega, ?_⟩
    rw [sel, if_neg (by omega), Nat.mul_div_cancel_left _ (by decide)]; exact h2
  | cons_cons a h ih =>
    obtain ⟨c, h1, h2⟩ := ih
    refine ⟨2 * c + 1, by rw [List.length_cons, Nat.pow_succ]; omega, ?_⟩
    have e : (2 * c + 1) / 2 = c := by omega
    rw [sel, if_pos (by omega), e, h2]
theorem mostUp_le (x y : List AV) : ∀ n, mostUp x y n ≤ lc x y
  | 0 => Nat.zero_le _
  | n + 1 => by
    have := mostUp_le x y n
    rw [mostUp]
    split
    · rename_i h
      have := lc_max (sel_sub n x) ((greedy y _).mp h)
      omega
    · exact this
theorem mostUp_ge (x y : List AV) {c : Nat} (h : (sel c x).Sublist y) : ∀ n, c < n → (sel c x).length ≤ mostUp x y n
  | 0, hc => absurd hc (Nat.not_lt_zero _)
  | n + 1, hc => by
    by_cases q : c = n
    · subst q
      rw [mostUp, if_pos ((greedy y _).mpr h)]; omega
    · have := mostUp_ge x y h n (by omega)
      rw [mostUp]; split <;> omega
theorem most_lc (x y : List AV) : most x y = lc x y := by
  obtain ⟨l, h1, h2, h3⟩ := lc_is x y
  obtain ⟨c, c1, rfl⟩ := sel_all h1
  have := mostUp_le x y (2 ^ x.length)
  have := mostUp_ge x y h2 _ c1
  unfold most
  omega
/-! begins and ends -/
theorem hd_take (x : List AV) : ∀ y : List AV, x.take (hd x y) = y.take (hd x y) := by
  induction x with
  | nil => intro y; rw [hd_nil']; rfl
  | cons a x ih =>
    intro y
    cases y with
    | nil => rw [hd_nil]; rfl
    | cons b y =>
      rw [hd]
      split
      · rename_i h; rw [List.take_succ_cons, List.take_succ_cons, ih, h]
      · rfl
theorem tl_drop (h : Nat) (x y : List AV) : (x.drop h).drop ((x.drop h).length - tl h x y) = (y.drop h).drop ((y.drop h).length - tl h x y) := by
  have := hd_take (x.drop h).reverse (y.drop h).reverse
  rw [← tl, List.take_reverse, List.take_reverse] at this
  exact List.reverse_inj.mp this
theorem split3 (x : List AV) (h t : Nat) (k : h + t ≤ x.length) : x = x.take h ++ (x.drop h).take (x.length - t - h) ++ x.drop (x.length - t) := by
  have e : x.drop (x.length - t) = (x.drop h).drop (x.length - t - h) := by rw [List.drop_drop]; congr 1; omega
  rw [e, List.append_assoc, List.take_append_drop, List.take_append_drop]
structure Cut (x y : List AV) (h t : Nat) : Prop where
  hx : h + t ≤ x.length
  hy : h + t ≤ y.length
  pre : x.take h = y.take h
  suf : x.drop (x.length - t) = y.drop (y.length - t)
theorem cut_is (x y : List AV) : Cut x y (hd x y) (tl (hd x y) x y) := by
  have a := hd_le x y
  have b := tl_le x y (hd x y)
  have c := hd_take x y
  have d := tl_drop (hd x y) x y
  generalize hd x y = h at *
  generalize tl h x y = t at *
  have b1 : h + t ≤ x.length := by omega
  have b2 : h + t ≤ y.length := by omega
  clear a b
  refine ⟨b1, b2, c, ?_⟩
  rw [List.drop_drop, List.drop_drop, List.length_drop, List.length_drop] at d
  have e1 : h + (x.length - h - t) = x.length - t := by omega
  have e2 : h + (y.length - h - t) = y.length - t := by omega
  rw [e1, e2] at d
  exact d
theorem kp_lc {x y : List AV} (hl : x.length ≠ y.length) (hm : x.length * y.length ≤ 1600) : (kp x y).length = lc x y := by
  have c := cut_is x y
  have e1 := inn_lenx x y
  have e2 := inn_leny x y
  have ei : inn x y x = (x.drop (hd x y)).take (x.length - tl (hd x y) x y - hd x y) := rfl
  have ej : inn x y y = (y.drop (hd x y)).take (y.length - tl (hd x y) x y - hd x y) := rfl
  have ek : kp x y = (List.range (hd x y)).map (fun i => (i, i)) ++ (kpI (inn x y x) (inn x y y)).map (fun p => (hd x y + p.1, hd x y + p.2)) ++
    (List.range (tl (hd x y) x y)).map fun i => (x.length - tl (hd x y) x y + i, y.length - tl (hd x y) x y + i) := rfl
  generalize inn x y x = u at *
  generalize inn x y y = v at *
  generalize hd x y = h at *
  generalize tl h x y = t at *
  have c1 := c.hx
  have c2 := c.hy
  have e1' : u.length + t + h = x.length := by omega
  have e2' : v.length + t + h = y.length := by omega
  clear e1 e2
  have no : ¬ (u.length = v.length ∨ u.length * v.length > 1600) := by
    rintro (q | q)
    · omega
    · have := Nat.mul_le_mul (show u.length ≤ x.length by omega) (show v.length ≤ y.length by omega)
      omega
  have el : (kp x y).length = h + lc u v + t := by
    rw [ek, List.length_append, List.length_append, List.length_map, List.length_map, List.length_map, List.length_range, List.length_range, kpI, if_neg no, (pr0 u v).2]
  rw [el]
  have s1 := split3 x h t c.hx
  have s2 := split3 y h t c.hy
  rw [← ei] at s1
  rw [← ej] at s2
  rw [← c.pre, ← c.suf] at s2
  rw [s1, s2, lc_suf, lc_pre, List.length_take, List.length_drop]
  have : min h x.length = h := by omega
  rw [this]
  omega
theorem kp_get {x y : List AV} (hl : x.length ≠ y.length) (hm : x.length * y.length ≤ 1600) : ∀ p ∈ kp x y, x[p.1]? = y[p.2]? := by
  have c := cut_is x y
  have e1 := inn_lenx x y
  have e2 := inn_leny x y
  have ei : inn x y x = (x.drop (hd x y)).take (x.length - tl (hd x y) x y - hd x y) := rfl
  have ej : inn x y y = (y.drop (hd x y)).take (y.length - tl (hd x y) x y - hd x y) := rfl
  have ek : kp x y = (List.range (hd x y)).map (fun i => (i, i)) ++ (kpI (inn x y x) (inn x y y)).map (fun p => (hd x y + p.1, hd x y + p.2)) ++
    (List.range (tl (hd x y) x y)).map fun i => (x.length - tl (hd x y) x y + i, y.length - tl (hd x y) x y + i) := rfl
  generalize inn x y x = u at *
  generalize inn x y y = v at *
  generalize hd x y = h at *
  generalize tl h x y = t at *
  have c1 := c.hx
  have c2 := c.hy
  have e1' : u.length + t + h = x.length := by omega
  have e2' : v.length + t + h = y.length := by omega
  clear e1 e2
  have no : ¬ (u.length = v.length ∨ u.length * v.length > 1600) := by
    rintro (q | q)
    · omega
    · have := Nat.mul_le_mul (show u.length ≤ x.length by omega) (show v.length ≤ y.length by omega)
      omega
  intro p hp
  rw [ek] at hp
  rcases List.mem_append.mp hp with hp | hp
  · rcases List.mem_append.mp hp with hp | hp
    · obtain ⟨i, hi, rfl⟩ := List.mem_map.mp hp
      have hi := List.mem_range.mp hi
      have := congrArg (·[i]?) c.pre
      simpa only [List.getElem?_take, if_pos hi] using this
    · obtain ⟨q, hq, rfl⟩ := List.mem_map.mp hp
      rw [kpI, if_neg no] at hq
      obtain ⟨_, _, q3, q4, q5⟩ := (pr0 u v).1.b q hq
      rw [Nat.sub_zero, Nat.sub_zero] at q5
      show x[h + q.1]? = y[h + q.2]?
      rw [ei, ej, List.getElem?_take, if_pos (by omega), List.getElem?_take, if_pos (by omega), List.getElem?_drop, List.getElem?_drop] at q5
      exact q5
  · obtain ⟨i, hi, rfl⟩ := List.mem_map.mp hp
    have := congrArg (·[i]?) c.suf
    simpa only [List.getElem?_drop] using this
theorem kp_head (x y : List AV) : (kp x y).take (hd x y) = (List.range (hd x y)).map fun i => (i, i) := by
  unfold kp
  rw [List.append_assoc, List.take_append_of_le_length (by rw [List.length_map, List.length_range]; exact Nat.le_refl _), List.take_of_length_le (by rw [List.length_map, List.length_range]; exact Nat.le_refl _)]
theorem kp_tail (x y : List AV) : (kp x y).drop ((kp x y).length - tl (hd x y) x y) = (List.range (tl (hd x y) x y)).map fun i => (x.length - tl (hd x y) x y + i, y.length - tl (hd x y) x y + i) := by
  have e : ∀ (A B : List (Nat × Nat)) (n : Nat), B.length = n → (A ++ B).drop ((A ++ B).length - n) = B := by
    intro A B n hn
    rw [List.length_append, hn, Nat.add_sub_cancel, List.drop_left]
  exact e _ _ _ (by rw [List.length_map, List.length_range])
theorem kp_tl_le (x y : List AV) : tl (hd x y) x y ≤ (kp x y).length := by
  unfold kp
  simp only [List.length_append, List.length_map, List.length_range]
  omega
theorem kp_eq {x y : List AV} (hl : x.length = y.length) : kp x y = (List.range x.length).map fun i => (i, i) := by
  have c := cut_is x y
  have e1 := inn_lenx x y
  have e2 := inn_leny x y
  have ek : kp x y = (List.range (hd x y)).map (fun i => (i, i)) ++ (kpI (inn x y x) (inn x y y)).map (fun p => (hd x y + p.1, hd x y + p.2)) ++
    (List.range (tl (hd x y) x y)).map fun i => (x.length - tl (hd x y) x y + i, y.length - tl (hd x y) x y + i) := rfl
  generalize inn x y x = u at *
  generalize inn x y y = v at *
  generalize hd x y = h at *
  generalize tl h x y = t at *
  have c1 := c.hx
  have e1' : u.length + t + h = x.length := by omega
  have e2' : v.length + t + h = x.length := by omega
  clear e1 e2
  have hm : min u.length v.length = x.length - t - h := by omega
  rw [ek, kpI, if_pos (.inl (by omega)), hm, ← hl]
  have r : List.range x.length = List.range h ++ (List.range (x.length - t - h)).map (h + ·) ++ (List.range t).map (x.length - t + ·) := by
    have z1 : x.length = (h + (x.length - t - h)) + t := by omega
    have z2 : x.length - t = h + (x.length - t - h) := by omega
    conv => lhs; rw [z1]
    rw [List.range_add, List.range_add, ← z2]
  rw [r, List.map_append, List.map_append, List.map_map, List.map_map, List.map_map]; rfl

theorem pt_ok (p : Nat × Nat) : AV.ok 4 (pt p) = true := AV.ok_cons (n := 3) (AV.ok_int _ _) (AV.ok_cons (AV.ok_int _ _) AV.ok_nil)
theorem pts_ok (L : List (Nat × Nat)) : ∀ a ∈ L.map pt, AV.ok 4 a = true := fun a ha => by
  obtain ⟨p, _, rfl⟩ := List.mem_map.mp ha; exact pt_ok p
theorem cut_from {l : List AV} {a : Nat} {k : Int} (h : k = (a : Int)) : cut l (some k) none = some (l.drop a) := by
  subst h; simp only [cut]; rw [if_pos (by omega)]; rfl
theorem cut_to {l : List AV} {a : Nat} {k : Int} (h : k = (a : Int)) : cut l none (some k) = some (l.take a) := by
  subst h; simp only [cut]; rw [if_pos (by omega)]; rfl
section
variable {prog : Program} {w : World} {B : Heap} {n : Nat} {mg mb : Str → Option Value}
theorem O_neLf {p q : Addr} {l k : List AV} {H : AH} {K : AV → AH → Prop} (m : Nat) (hp : Has H p l) (hl : ∀ a ∈ l, AV.ok m a = true) (hq : Has H q k) (hm : m ≤ 8) (e : l = k) (h : K (.bool false) H) : opV prog w B n [.ref p, .ref q] H (cmp .NotEq) K :=
  O_neL m hp hl hq (e ▸ hl) hm fun t ht => by
    cases t with
    | false => exact h
    | true => exact absurd e (ht.mp rfl)
theorem O_eqLt {p q : Addr} {l k : List AV} {H : AH} {K : AV → AH → Prop} (m : Nat) (hp : Has H p l) (hl : ∀ a ∈ l, AV.ok m a = true) (hq : Has H q k) (hm : m ≤ 8) (e : l = k) (h : K (.bool true) H) : opV prog w B n [.ref p, .ref q] H (cmp .Eq) K :=
  O_eqL m hp hl hq (e ▸ hl) hm fun t ht => by
    cases t with
    | true => exact h
    | false => exact absurd (ht.mpr e) (by decide)
theorem right_c {c2 c3 c4 c7 c14 c15 c : Addr} {H : AH} {p q : Addr} {x y : List AV} {K : AV → AH → Prop} (W : Wd B mg mb) (F : Fs B mg c2 c3 c4 c7) (F14 : Fn B mg 14 c14) (F15 : Fn B mg 15 c15) (F' : Fn B mg 16 c)
    (hx : Has H p x) (hy : Has H q y) (lx : x.length ≤ 20) (ly : y.length ≤ 20) (ox : Parts x) (oy : Parts y)
    (hK : ∀ H', (∀ e ∈ H, e ∈ H') → K (.bool true) H') :
    opV prog w B (n + 6) [.ref p, .ref q, .int (lc x y)] H (fun vs => call (.ref c) vs) K := by
  refine enter W F' ⟨rfl, rfl, rfl⟩ (names := ["one", "other", "most"]) (by decide) rfl (fun _ _ _ _ _ _ _ _ _ => BindsTo.of_eq rfl) (fun _ => ⟨.inr ⟨rfl, rfl⟩, .inr ⟨rfl, rfl⟩, .inl rfl, trivial⟩) fun L cdv P => ?_
  have k := kp_ok x y
  have kl := kp_len x y
  have kml : ((kp x y).map pt).length = (kp x y).length := List.length_map _
  have okx := ox.ok
  have oky := oy.ok
  dsimp only [List.zip_cons_cons, List.zip_nil_left]
  obtain ⟨h, hh⟩ : ∃ h, h = hd x y := ⟨_, rfl⟩
  obtain ⟨t, ht⟩ : ∃ t, t = tl h x y := ⟨_, rfl⟩
  have bh := hd_le x y
  rw [← hh] at bh
  have bt := tl_le x y h
  rw [← ht] at bt
  have hx0 : h + t ≤ x.length := by omega
  have hy0 : h + t ≤ y.length := by omega
  clear bt bh
  have ktl := kp_tl_le x y
  rw [← hh, ← ht] at ktl
  have Hh : Hid (h = hd x y) := hh
  have Ht : Hid (t = tl h x y) := ht
  clear hh ht
  have rest3 : ∀ V' H3 z, Vars.at_ V' "one" (.ref p) → Vars.at_ V' "other" (.ref q) → Vars.at_ V' "most" (.int (lc x y)) → Vars.at_ V' "pairs" (.ref z) → Vars.at_ V' "rest" (.int t) → (∀ e ∈ H, e ∈ H3) → (z, .lst ((kp x y).map pt)) ∈ H3 → wpS prog w B (n + 5) (senv 16 L c cdv) V' H3 ((bodyOf (defAt 16)).drop 7) (funK K) := by
    intro V' H3 z v1 v2 v3 v4 v5 k3 hz
    have hx3 : Has H3 p x := hx.imp (k3 _) (k3 _)
    have hy3 : Has H3 q y := hy.imp (k3 _) (k3 _)
    have hz3 : Has H3 z ((kp x y).map pt) := .inl hz
    walk_at "wb"
    refine S_assignComp P rfl rfl (by decide) rfl (by decide) rfl (fun _ => rfl) (V' := [("one", .ref p), ("other", .ref q), ("rest", .int t)]) (fun C => sees P _ rfl rfl rfl rfl ⟨rfl, rfl, rfl, trivial⟩ ⟨⟨v1, rfl, rfl⟩, ⟨v2, rfl, rfl⟩, ⟨v5, rfl, rfl⟩, trivial⟩) ?_
    repeat walk_at "wk"
    refine ⟨by walk_at "lt", ?_⟩
    refine compUp P rfl (by walk_at "lt") (fun i us H' => us = (List.range i).map (fun i => pt (x.length - t + i, y.length - t + i)) ∧ ∀ e ∈ H3, e ∈ H') ⟨rfl, fun e h => h⟩ (fun C i us H' P' hi j => ?_) (fun us H4 j D4 => ?_)
    · obtain ⟨j5, j6⟩ := j
      have hx3 : Has H' p x := hx3.imp (j6 _) (j6 _)
      have hy3 : Has H' q y := hy3.imp (j6 _) (j6 _)
      refine turn1 rfl ?_
      repeat walk_at "wk"
      refine ⟨?_, j6⟩
      rw [j5, List.range_succ, List.map_append, pt_eq (a := x.length - t + i) (b := y.length - t + i) (by omega) (by omega)]; rfl
    obtain ⟨j5, j6⟩ := j
    have hz4 : Has ((D4, AO.lst us) :: H4) z ((kp x y).map pt) := .inl (.tail _ (j6 _ hz))
    repeat walk_at "wk"
    refine ⟨z, _, _, rfl, hz4, by omega, cut_from (a := ((kp x y).map pt).length - t) (by omega), fun z5 => ?_⟩
    repeat walk_at "wk"
    refine O_neLf 4 (.inl (.head _)) (fun a ha => pts_ok _ a (List.mem_of_mem_drop ha)) (.inl (.tail _ (.head _))) (by decide) ?_ ?_
    · have hh : h = hd x y := Hh
      have ht : t = tl h x y := Ht
      rw [kml, ← List.map_drop, ht, hh, kp_tail, ← hh, ← ht, j5, List.map_map]; rfl
    have k6 : ∀ e ∈ H, e ∈ ((z5, AO.lst (((kp x y).map pt).drop (((kp x y).map pt).length - t))) :: (D4, AO.lst us) :: H4) := fun e he => .tail _ (.tail _ (j6 _ (k3 e he)))
    have hz6 : (z, .lst ((kp x y).map pt)) ∈ ((z5, AO.lst (((kp x y).map pt).drop (((kp x y).map pt).length - t))) :: (D4, AO.lst us) :: H4) := .tail _ (.tail _ (j6 _ hz))
    generalize ((z5, AO.lst (((kp x y).map pt).drop (((kp x y).map pt).length - t))) :: (D4, AO.lst us) :: H4) = H6 at k6 hz6
    have hx6 : Has H6 p x := hx.imp (k6 _) (k6 _)
    have hy6 : Has H6 q y := hy.imp (k6 _) (k6 _)
    have hz6' : Has H6 z ((kp x y).map pt) := .inl hz6
    repeat walk_at "wk"
    refine dc_ (fun hl => ?_) (fun hl => ?_)
    · repeat walk_at "wk"
      refine V_comp (by decide) rfl (by decide) rfl (fun _ => rfl) (V' := []) (fun C => sees P _ rfl rfl rfl rfl trivial trivial) ?_
      repeat walk_at "wk"
      refine ⟨by walk_at "lt", ?_⟩
      refine compUp P rfl (by walk_at "lt") (fun i ys H' => ys = (List.range i).map (fun i => pt (i, i)) ∧ ∀ e ∈ H6, e ∈ H') ⟨rfl, fun e h => h⟩ (fun C i ys H' P' hi j => ?_) (fun ys H7 j z2 => ?_)
      · refine turn1 rfl ?_
        repeat walk_at "wk"
        exact ⟨by rw [j.1, List.range_succ, List.map_append]; rfl, j.2⟩
      obtain ⟨j1, k7⟩ := j
      refine O_eqLt 4 (.inl (.tail _ (k7 _ hz6))) (pts_ok _) (.inl (.head _)) (by decide) ?_ ?_
      · rw [kp_eq (by omega), j1, List.map_map]; rfl
      · exact hK _ fun e he => .tail _ (k7 _ (k6 e he))
    · have hne : x.length ≠ y.length := by omega
      have hm := Nat.mul_le_mul lx ly
      have hkl := kp_lc hne (by omega)
      repeat walk_at "wk"
      refine dc_ (fun hc => ?_) (fun hc => absurd hkl (by omega))
      repeat walk_at "wk"
      refine V_comp (by decide) rfl (by decide) rfl (fun _ => rfl) (V' := [("one", .ref p), ("other", .ref q)]) (fun C => sees P _ rfl rfl rfl rfl ⟨rfl, rfl, trivial⟩ ⟨⟨v1, rfl, rfl⟩, ⟨v2, rfl, rfl⟩, trivial⟩) ?_
      refine R_val ?_
      repeat walk_at "wk"
      refine compLst hz6' P rfl (by omega) (fun k ys H' => ys = [] ∧ H' = H6) ⟨rfl, rfl⟩ (fun i ys H' j => j.2 ▸ hz6') (fun C i e ys H' P' hi j => ?_) (fun ys H7 j z7 => ?_)
      · obtain ⟨rfl, rfl⟩ := j
        rw [List.getElem?_map] at hi
        obtain ⟨⟨u, v⟩, hu, rfl⟩ := Option.map_eq_some_iff.mp hi
        have hmem : (u, v) ∈ kp x y := List.mem_of_getElem? hu
        have hb := k.2 _ hmem
        have hg := kp_get hne (by omega) _ hmem
        have lu : u < x.length := hb.1
        have lv : v < y.length := hb.2
        have hg : x[u] = y[v] := by
          have hg : x[u]? = y[v]? := hg
          rw [List.getElem?_eq_getElem lu, List.getElem?_eq_getElem lv] at hg
          injection hg
        show turnJ _ _ _ _ _ _ _ _ _ _ (.tup [.int u, .int v]) _ _
        refine turn1i rfl ?_
        repeat walk_at "wk"
        refine G_at hx6 u rfl lu (by walk_at "lt") (fun _ _ => rfl) ?_
        repeat walk_at "wk"
        refine G_at hy6 v rfl lv (by walk_at "lt") (fun _ _ => rfl) ?_
        repeat walk_at "wk"
        refine O_nec 4 (okx _ (List.getElem_mem _)) (oky _ (List.getElem_mem _)) (by decide) (fun q => absurd hg q) (fun _ => ?_)
        repeat walk_at "wk"
        exact ⟨rfl, rfl⟩
      obtain ⟨rfl, rfl⟩ := j
      repeat walk_at "wk"
      refine fun z8 => ?_
      refine O_eqLt 4 (.inl (.tail _ (.head _))) (fun a h => absurd h List.not_mem_nil) (.inl (.head _)) (by decide) rfl ?_
      exact hK _ fun e he => .tail _ (.tail _ (k6 e he))
  have rest2 : ∀ V' H3 z, Vars.at_ V' "one" (.ref p) → Vars.at_ V' "other" (.ref q) → Vars.at_ V' "most" (.int (lc x y)) → Vars.at_ V' "pairs" (.ref z) → Vars.at_ V' "head" (.int h) → (∀ e ∈ H, e ∈ H3) → (z, .lst ((kp x y).map pt)) ∈ H3 → wpS prog w B (n + 5) (senv 16 L c cdv) V' H3 ((bodyOf (defAt 16)).drop 4) (funK K) := by
    intro V' H3 z v1 v2 v3 v4 v5 k3 hz
    have hx3 : Has H3 p x := hx.imp (k3 _) (k3 _)
    have hy3 : Has H3 q y := hy.imp (k3 _) (k3 _)
    have hz3 : Has H3 z ((kp x y).map pt) := .inl hz
    walk_at "wb"
    repeat walk_at "wk"
    refine fun z1 => ?_
    rw [Int.toNat_natCast]
    refine V_comp (by decide) rfl (by decide) rfl (fun _ => rfl) (V' := []) (fun C => sees P _ rfl rfl rfl rfl trivial trivial) ?_
    repeat walk_at "wk"
    refine ⟨by walk_at "lt", ?_⟩
    refine compUp P rfl (by walk_at "lt") (fun i ys H' => ys = (List.range i).map (fun i => pt (i, i)) ∧ ∀ e ∈ ((z1, AO.lst (((kp x y).map pt).take h)) :: H3), e ∈ H') ⟨rfl, fun e h => h⟩ (fun C i ys H' P' hi j => ?_) (fun ys H4 j z2 => ?_)
    · refine turn1 rfl ?_
      repeat walk_at "wk"
      exact ⟨by rw [j.1, List.range_succ, List.map_append]; rfl, j.2⟩
    obtain ⟨j1, k4⟩ := j
    refine O_neLf 4 (.inl (.tail _ (k4 _ (.head _)))) (fun a ha => pts_ok _ a (List.mem_of_mem_take ha)) (.inl (.head _)) (by decide) ?_ ?_
    · have hh : h = hd x y := Hh
      rw [← List.map_take, hh, kp_head, ← hh, j1, List.map_map]; rfl
    have k5 : ∀ e ∈ H, e ∈ ((z2, AO.lst ys) :: H4) := fun e he => .tail _ (k4 _ (.tail _ (k3 e he)))
    have hz5 : (z, .lst ((kp x y).map pt)) ∈ ((z2, AO.lst ys) :: H4) := .tail _ (k4 _ (.tail _ hz))
    generalize ((z2, AO.lst ys) :: H4) = H5 at k5 hz5
    have hx5 : Has H5 p x := hx.imp (k5 _) (k5 _)
    have hy5 : Has H5 q y := hy.imp (k5 _) (k5 _)
    repeat walk_at "wk"
    refine S_while (fun m V' H' => Vars.at_ V' "one" (.ref p) ∧ Vars.at_ V' "other" (.ref q) ∧ Vars.at_ V' "most" (.int (lc x y)) ∧ Vars.at_ V' "pairs" (.ref z) ∧ Vars.at_ V' "head" (.int h) ∧ H' = H5 ∧ ∃ k : Nat, Vars.at_ V' "rest" (.int k) ∧ h + k ≤ x.length ∧ h + k ≤ y.length ∧ m + k = x.length ∧ t = k + hd ((x.drop h).reverse.drop k) ((y.drop h).reverse.drop k)) x.length ⟨v1, v2, v3, v4, v5, rfl, 0, rfl, by omega, by omega, rfl, (show t = tl h x y from Ht).trans (Nat.zero_add _).symm⟩ ?_
    rintro m V' H' ⟨v1, v2, v3, v4, v5, rfl, k, v6, h1, h2, hm, e⟩
    have Hm : Hid (m + k = x.length) := hm
    have E : Hid (t = k + hd ((x.drop h).reverse.drop k) ((y.drop h).reverse.drop k)) := e
    clear hm e
    repeat walk_at "wk"
    refine dc_ (fun lI => ?_) (fun lI => ?_)
    · have q1 : h + k < x.length := by omega
      have q2 : h + k < y.length := by omega
      clear lI
      obtain ⟨u, hu⟩ : ∃ u, u + k + 1 = x.length := ⟨x.length - 1 - k, by omega⟩
      obtain ⟨v, hv⟩ : ∃ v, v + k + 1 = y.length := ⟨y.length - 1 - k, by omega⟩
      have l1 : k < (x.drop h).reverse.length := by rw [List.length_reverse, List.length_drop]; omega
      have l2 : k < (y.drop h).reverse.length := by rw [List.length_reverse, List.length_drop]; omega
      have g1 : (x.drop h).reverse[k] = x[u] := by
        rw [List.getElem_reverse, List.getElem_drop]
        congr 1
        rw [List.length_drop]; omega
      have g2 : (y.drop h).reverse[k] = y[v] := by
        rw [List.getElem_reverse, List.getElem_drop]
        congr 1
        rw [List.length_drop]; omega
      rw [hd_step l1 l2, g1, g2] at E
      repeat walk_at "wk"
      refine G_neg (j := u) hx5 (by omega) (by omega) (List.getElem?_eq_getElem (by omega)) (fun _ _ => rfl) (by omega) ?_
      repeat walk_at "wk"
      refine G_neg (j := v) hy5 (by omega) (by omega) (List.getElem?_eq_getElem (by omega)) (fun _ _ => rfl) (by omega) ?_
      repeat walk_at "wk"
      refine O_eqc 4 (okx _ (List.getElem_mem _)) (oky _ (List.getElem_mem _)) (by decide) (fun q => ?_) (fun q => ?_)
      · rw [if_pos q] at E
        repeat walk_at "wk"
        have hm : m + k = x.length := Hm
        exact ⟨m - 1, by omega, .here ⟨v1, v2, v3, v4, v5, rfl, k + 1, rfl, by omega, by omega, by omega, (show t = k + (hd _ _ + 1) from E).trans (by omega)⟩⟩
      · rw [if_neg q, Nat.add_zero] at E
        have e : t = k := E
        subst e
        refine ⟨_, rfl, ff_ (ff_ ?_)⟩
        exact rest3 _ _ z v1 v2 v3 v4 v6 k5 hz5
    · rw [hd_end (by rw [List.length_reverse, List.length_drop, List.length_reverse, List.length_drop]; omega), Nat.add_zero] at E
      have e : t = k := E
      subst e
      refine ff_ ?_
      exact rest3 _ _ z v1 v2 v3 v4 v6 k5 hz5
  walk_at "wb"
  refine S_assign P (.loc rfl) rfl ?_
  refine V_fn W P F.f3 rfl rfl (by decide) rfl ?_
  repeat walk_at "wk"
  refine kept_c W F.f2 F.f3 hx hy (by omega) (by omega) okx oky fun z H1 k1 hz => ?_
  have hx1 : Has H1 p x := hx.imp (k1 _) (k1 _)
  have hy1 : Has H1 q y := hy.imp (k1 _) (k1 _)
  have hz1 : Has H1 z ((kp x y).map pt) := .inl hz
  repeat walk_at "wk"
  refine B_plain ?_ rfl
  refine V_fn W P F14 rfl rfl (by decide) rfl ?_
  repeat walk_at "wk"
  refine ascend_c W F14 hz1 k.1 (by omega) ?_
  repeat walk_at "wk"
  refine ft_ ?_
  repeat walk_at "wk"
  refine V_fn W P F.f4 rfl rfl (by decide) rfl ?_
  repeat walk_at "wk"
  refine array1_c W F (by simp) (by simp) hx1 hy1 (by omega) (by omega) ox oy fun r2 H2 k2 hr2 => ?_
  have hz2 : Has H2 z ((kp x y).map pt) := .inl (k2 _ hz)
  have hx2 : Has H2 p x := hx1.imp (k2 _) (k2 _)
  have hy2 : Has H2 q y := hy1.imp (k2 _) (k2 _)
  refine V_fn W P F15 rfl rfl (by decide) rfl ?_
  repeat walk_at "wk"
  refine due_c W F F15 hz2 hx2 hy2 (by omega) (by omega) ox oy k.2 (by omega) fun r3 H3 k3 hr3 => ?_
  refine O_neLf 6 (.inl (k3 _ hr2)) (ar_ok (fun a ha => by rw [List.mem_singleton.mp ha]; exact AV.ok_s _ rfl (by decide)) okx oky k.2 fun path u v hp hu hv => sr1_ok hp (okx u hu) (oky v hv)) (.inl hr3) (by decide) rfl ?_
  have kk3 : ∀ e ∈ H, e ∈ H3 := fun e he => k3 e (k2 e (k1 e he))
  have hz3 := k3 _ (k2 _ hz)
  repeat walk_at "wk"
  refine S_while (fun m V' H' => Vars.at_ V' "one" (.ref p) ∧ Vars.at_ V' "other" (.ref q) ∧ Vars.at_ V' "most" (.int (lc x y)) ∧ Vars.at_ V' "pairs" (.ref z) ∧ H' = H3 ∧ ∃ k : Nat, Vars.at_ V' "head" (.int k) ∧ k ≤ x.length ∧ k ≤ y.length ∧ m + k = x.length ∧ h = k + hd (x.drop k) (y.drop k)) x.length ⟨rfl, rfl, rfl, rfl, rfl, 0, rfl, Nat.zero_le _, Nat.zero_le _, rfl, (show h = hd x y from Hh).trans (Nat.zero_add _).symm⟩ ?_
  rintro m V' H' ⟨v1, v2, v3, v4, rfl, k, v5, h1, h2, hm, e⟩
  have Hm : Hid (m + k = x.length) := hm
  have E : Hid (h = k + hd (x.drop k) (y.drop k)) := e
  clear hm e
  have hx3 : Has H' p x := hx.imp (kk3 _) (kk3 _)
  have hy3 : Has H' q y := hy.imp (kk3 _) (kk3 _)
  repeat walk_at "wk"
  refine dc_ (fun lI => ?_) (fun lI => ?_)
  · have l1 : k < x.length := by omega
    have l2 : k < y.length := by omega
    clear lI
    rw [hd_step l1 l2] at E
    repeat walk_at "wk"
    refine G_at hx3 k rfl l1 (by walk_at "lt") (fun _ _ => rfl) ?_
    repeat walk_at "wk"
    refine G_at hy3 k rfl l2 (by walk_at "lt") (fun _ _ => rfl) ?_
    repeat walk_at "wk"
    refine O_eqc 4 (okx _ (List.getElem_mem _)) (oky _ (List.getElem_mem _)) (by decide) (fun q => ?_) (fun q => ?_)
    · rw [if_pos q] at E
      repeat walk_at "wk"
      have hm : m + k = x.length := Hm
      exact ⟨m - 1, by omega, .here ⟨v1, v2, v3, v4, rfl, k + 1, rfl, by omega, by omega, by omega, (show h = k + (hd _ _ + 1) from E).trans (by omega)⟩⟩
    · rw [if_neg q, Nat.add_zero] at E
      have e : h = k := E
      subst e
      refine ⟨_, rfl, ff_ (ff_ ?_)⟩
      exact rest2 _ _ z v1 v2 v3 v4 v5 kk3 hz3
  · rw [hd_end (by omega), Nat.add_zero] at E
    have e : h = k := E
    subst e
    refine ff_ ?_
    exact rest2 _ _ z v1 v2 v3 v4 v5 kk3 hz3
end

theorem hd_disj {x y : List AV} (h : ∀ a ∈ x, ∀ b ∈ y, a ≠ b) : hd x y = 0 := by
  match x, y, h with
  | [], y, _ => exact hd_nil' y
  | a :: x, [], _ => exact hd_nil _
  | a :: x, b :: y, h => rw [hd, if_neg (h a (.head _) b (.head _))]
theorem kp_disj {x y : List AV} (h : ∀ a ∈ x, ∀ b ∈ y, a ≠ b) (hm : x.length * y.length > 1600) (hl : x.length ≤ y.length) : kp x y = (List.range x.length).map fun i => (i, i) := by
  have e1 := hd_disj h
  have e2 : tl 0 x y = 0 := hd_disj fun a ha b hb => h a (by rw [List.drop_zero, List.mem_reverse] at ha; exact ha) b (by rw [List.drop_zero, List.mem_reverse] at hb; exact hb)
  have i1 : inn x y x = x := by rw [inn, e1, e2, List.drop_zero]; exact List.take_of_length_le (by omega)
  have i2 : inn x y y = y := by rw [inn, e1, e2, List.drop_zero]; exact List.take_of_length_le (by omega)
  have e3 : min x.length y.length = x.length := by omega
  rw [kp, i1, i2, e1, e2, kpI, if_pos (.inr hm), e3]
  simp
noncomputable def farL : List AV := (List.range 41).map fun (i : Nat) => .tup [.str "int", .int i]
noncomputable def besL : List AV := (List.range 42).map fun (i : Nat) => .tup [.str "int", .int (100 + (i : Int))]
theorem kp_far : kp farL besL = (List.range 41).map fun i => (i, i) := by
  have l1 : farL.length = 41 := by rw [farL, List.length_map, List.length_range]
  have l2 : besL.length = 42 := by rw [besL, List.length_map, List.length_range]
  rw [kp_disj (fun a ha b hb e => ?_) (by rw [l1, l2]; decide) (by rw [l1, l2]; decide), l1]
  obtain ⟨i, hi, rfl⟩ := List.mem_map.mp ha
  obtain ⟨j, hj, rfl⟩ := List.mem_map.mp hb
  have := List.mem_range.mp hi
  injection e with e; injection e with _ e; injection e with e; injection e with e
  omega
section
variable {prog : Program} {w : World} {B : Heap} {n : Nat} {mg mb : Str → Option Value}
theorem V_SliceB {env : Env} {V : Vars} {H : AH} {K : AV → AH → Prop} {value : Expr} {lower upper : Option Expr} {p pos : Pos}
    (h : wpV prog w B n env V H (eval value env) (fun a H₁ => partE prog w B n env V H₁ lower (fun i H₂ => partE prog w B n env V H₂ upper (fun j H₃ =>
      ∃ q vs l k, a = .ref q ∧ B.IsList q (List.toArray vs) ∧ (∀ h, VRs h vs l) ∧ l.length ≤ 1000000 ∧ cut l i j = some k ∧ ∀ b, K (.ref b) ((b, .lst k) :: H₃)))))
    (ht : ∀ o r, letTemporaryGo value o r = pure ()) : wpV prog w B n env V H (eval (.Subscript value (.Slice lower upper Option.none p) pos) env) K := fun A s r x => by
  refine wpAny_Subscript_list_slice (wpAny_mono (h A s r x) (fun v s₁ ⟨a, H₁, h1, h2, h3⟩ => ?_) fun _ _ e => e.elim) ht
  refine wpAny_mono (h1 A s₁ r (h3.inv x)) (fun vl s₂ ⟨i, H₂, k1, k2, k3⟩ => ?_) fun _ _ e => e.elim
  refine wpAny_mono (k1 A s₂ r ((h3.trans k3).inv x)) (fun vu s₃ ⟨j, H₃, ⟨q, vs, l, k, e1, e2, e3, e3', e4, e5⟩, m2, m3⟩ => ?_) fun _ _ e => e.elim
  subst e1; obtain rfl := h2.toRef
  have E3 := (h3.trans k3).trans m3
  have hi := E3.hi x.hi
  obtain ⟨o, o1, o2⟩ := e2
  have hl : s₃.heap.IsList q (List.toArray vs) := ⟨o, hi.keep _ _ o1, o2⟩
  have hv := e3 s₃.heap
  obtain ⟨ws, c1, c2⟩ := cut_pick hv e4
  have e1 := hv.length
  refine ⟨q, vs.toArray, i, j, rfl, hl, by rw [List.size_toArray, e1]; exact Nat.le_trans e3' (by decide), k2, m2, .ref (s₃.heap.objs.size + 1), _, e5 _, .ref _, E3.trans ?_⟩
  rw [c1]
  refine Ext.new hi (fun b o e => push_keeps _ _ (push_keeps _ _ e)) ?_ ⟨ws, 0, ?_, c2.mono (tk_of_keep fun b o e => push_keeps _ _ (push_keeps _ _ e))⟩
  · cases e : s₃.heap.get? (s₃.heap.objs.size + 1) with
    | none => rfl
    | some o => exact absurd (Heap.lt_size e) (Nat.not_lt.mpr (Nat.le_succ _))
  · have z := Heap.get?_push_size (s₃.heap.push { cls := .type "slice", data := .fields #[vl, vu, .none] }) (o := { cls := .type "list", data := .seq ws.toArray }) rfl
    rw [Heap.size_push] at z; exact z
theorem pen_c {c : Addr} {H : AH} {a : Addr} {vs : List Value} {ns : List Int} {K : AV → AH → Prop} (W : Wd B mg mb) (F : Fn B mg 9 c) (ha : B.IsList a vs.toArray) (hv : ∀ h, VRs h vs (ns.map .int)) (hn : ns.length ≤ 100)
    (hK : ∀ pen q b, q ≠ pen → K (.ref pen) ((pen, .lst [.ref q, .int 0, .int 0]) :: (q, .lst ((ns.map .int).take 24)) :: (b, .lst ((ns.map .int).take 24)) :: H)) :
    opV prog w B (n + 1) [.ref a] H (fun vs => call (.ref c) vs) K := by
  refine enter W F ⟨rfl, rfl, rfl⟩ (names := ["script"]) (by decide) rfl (fun _ _ _ _ _ _ _ => BindsTo.of_eq rfl) (fun _ => ⟨.inl rfl, trivial⟩) fun L cdv P => ?_
  dsimp only [List.zip_cons_cons, List.zip_nil_left]
  walk_at "wb"
  refine S_ret (V_ndK ?_)
  refine V_List (L_cons ?_ rfl)
  refine V_listL W P rfl rfl ?_
  refine V_SliceB ?_ (fun _ _ => rfl)
  refine V_local rfl ?_ rfl rfl rfl
  refine P_none (P_some (V_int ⟨_, rfl, ?_⟩))
  refine ⟨a, vs, _, _, rfl, ha, hv, by rw [List.length_map]; omega, cut_to (a := 24) rfl, fun b => ?_⟩
  refine ⟨b, _, rfl, .inl (.head _), by rw [List.length_take, List.length_map]; omega, fun q => ?_⟩
  repeat walk_at "wk"
  refine fun pen nd => ?_
  rw [List.map_cons, List.nodup_cons] at nd
  exact hK pen q b fun e => nd.1 (e ▸ List.mem_cons_self)
theorem law_c {c2 c3 c4 c7 c9 c10 c11 c12 c13 c14 c15 c16 f : Addr} {L : Addr} {cdv : Value} {a : Addr} {vs : List Value} {ns : List Int} (W : Wd B mg mb) (F : Fs B mg c2 c3 c4 c7) (F9 : Fn B mg 9 c9) (F10 : Fn B mg 10 c10) (F11 : Fn B mg 11 c11) (F12 : Fn B mg 12 c12)
    (F13 : Fn B mg 13 c13) (F14 : Fn B mg 14 c14) (F15 : Fn B mg 15 c15) (F16 : Fn B mg 16 c16) (ha : B.IsList a vs.toArray) (hv : ∀ h, VRs h vs (ns.map .int)) (hn : ns.length ≤ 100) :
    wpS prog w B (n + 7) (senv 17 L f cdv) [("script", .ref a)] [] (bodyOf (defAt 17)) (fun fl V H => fl = .ret (.bool true)) := by
  have P : Plain (senv 17 L f cdv) := senv_plain _ _ _ _ rfl
  walk_at "wb"
  refine S_assign P (.loc rfl) rfl ?_
  refine V_fn W P F9 rfl rfl (by decide) rfl ?_
  repeat walk_at "wk"
  refine pen_c W F9 ha hv hn fun pen q b hne => ?_
  refine wpS.weaken (VSub.refl _) (.arr (HSub.refl _)) ?_
  have hp0 : Pen ((pen, .arr [.ref q, .int 0, .int 0]) :: (q, .lst ((ns.map AV.int).take 24)) :: (b, .lst ((ns.map AV.int).take 24)) :: []) pen q (ns.take 24) 0 :=
    ⟨⟨0, 0, Nat.le_refl _, Int.le_refl _, .head _⟩, .inl (by rw [List.map_take]; exact .tail _ (.head _)), hne, by rw [List.length_take]; omega⟩
  generalize ((pen, AO.arr [.ref q, .int 0, .int 0]) :: (q, AO.lst ((ns.map AV.int).take 24)) :: (b, AO.lst ((ns.map AV.int).take 24)) :: []) = H0 at hp0
  refine S_for' P (fun _ => rfl) ?_
  refine R_up' W P rfl rfl (V_int ⟨2, rfl, by decide, ?_⟩)
  refine forUp (.loc rfl) (fun k V' H' => Vars.at_ V' "pen" (.ref pen) ∧ Pen H' pen q (ns.take 24) (40 * k)) ⟨rfl, hp0⟩ ?_ ?_
  · rintro k V' H1 hk ⟨v1, hp1⟩
    refine S_two P (.cell rfl rfl) (.cell rfl rfl) rfl rfl ?_
    refine V_fn W P F12 rfl rfl (by decide) rfl ?_
    repeat walk_at "wk"
    refine pair_c W F10 F11 F12 (by omega) hp1 fun p1 p2 x y H2 lx ly ox oy k2 hp2 m1 m2 np1 np2 => ?_
    refine ⟨_, _, rfl, ?_⟩
    have hx2 : Has H2 p1 x := .inl m1
    have hy2 : Has H2 p2 y := .inl m2
    repeat walk_at "wk"
    refine fun b1 => ?_
    repeat walk_at "wk"
    refine fun b2 => ?_
    have k3 : ∀ e ∈ H2, e ∈ ((b2, AO.lst y) :: (b1, AO.lst x) :: H2) := fun e he => .tail _ (.tail _ he)
    have mb1 : Has ((b2, AO.lst y) :: (b1, AO.lst x) :: H2) b1 x := .inl (.tail _ (.head _))
    have mb2 : Has ((b2, AO.lst y) :: (b1, AO.lst x) :: H2) b2 y := .inl (.head _)
    have hx3 : Has ((b2, AO.lst y) :: (b1, AO.lst x) :: H2) p1 x := hx2.tl.tl
    have hy3 : Has ((b2, AO.lst y) :: (b1, AO.lst x) :: H2) p2 y := hy2.tl.tl
    have hp3 : Pen ((b2, AO.lst y) :: (b1, AO.lst x) :: H2) pen q (ns.take 24) (40 * k + 40) := (hp2.cons _).cons _
    generalize ((b2, AO.lst y) :: (b1, AO.lst x) :: H2) = H3 at k3 mb1 mb2 hx3 hy3 hp3
    repeat walk_at "wk"
    refine V_fn W P F13 rfl rfl (by decide) rfl ?_
    repeat walk_at "wk"
    refine most_c W F13 hx3 hy3 lx ly ox oy fun H4 k4 => ?_
    have hx4 : Has H4 p1 x := hx3.imp (k4 _) (k4 _)
    have hy4 : Has H4 p2 y := hy3.imp (k4 _) (k4 _)
    rw [most_lc]
    refine S_assign P (.loc rfl) rfl ?_
    refine V_fn W P F.f2 rfl rfl (by decide) rfl ?_
    repeat walk_at "wk"
    refine rows_c W F.f2 hx4 hy4 (by omega) (by omega) ox.ok oy.ok fun z H5 k5 hz => ?_
    have hx5 : Has H5 p1 x := hx4.imp (k5 _) (k5 _)
    have hy5 : Has H5 p2 y := hy4.imp (k5 _) (k5 _)
    have hz5 : Has H5 z ((pr 0 0 x y).map pt) := .inl hz
    have pk := pr0 x y
    have pkl := pr_len x y 0 0
    have pml : ((pr 0 0 x y).map pt).length = (pr 0 0 x y).length := List.length_map _
    repeat walk_at "wk"
    refine B_plain ?_ rfl
    refine V_fn W P F14 rfl rfl (by decide) rfl ?_
    repeat walk_at "wk"
    refine ascend_c W F14 hz5 pk.1.a (by omega) ?_
    repeat walk_at "wk"
    refine ft_ ?_
    repeat walk_at "wk"
    rw [show decide ((((pr 0 0 x y).map pt).length : Int) = (lc x y : Int)) = true from decide_eq_true (by have := pk.2; omega)]
    refine ft_ ?_
    repeat walk_at "wk"
    refine V_comp (by decide) rfl (by decide) rfl (fun _ => rfl) (V' := [("one", .ref p1), ("other", .ref p2)]) (fun C => sees P _ rfl rfl rfl rfl ⟨rfl, rfl, trivial⟩ ⟨⟨rfl, rfl, rfl⟩, ⟨rfl, rfl, rfl⟩, trivial⟩) ?_
    refine R_val ?_
    repeat walk_at "wk"
    refine compLst hz5 P rfl (by omega) (fun k ys H' => ys = [] ∧ H' = H5) ⟨rfl, rfl⟩ (fun i ys H' j => j.2 ▸ hz5) (fun C i e ys H' P' hi j => ?_) (fun ys H7 j z7 => ?_)
    · obtain ⟨rfl, rfl⟩ := j
      rw [List.getElem?_map] at hi
      obtain ⟨⟨u, v⟩, hu, rfl⟩ := Option.map_eq_some_iff.mp hi
      have hmem : (u, v) ∈ pr 0 0 x y := List.mem_of_getElem? hu
      obtain ⟨_, _, lu, lv, hg⟩ := pk.1.b _ hmem
      have lu : u < x.length := by have : u < 0 + x.length := lu; omega
      have lv : v < y.length := by have : v < 0 + y.length := lv; omega
      have hg : x[u] = y[v] := by
        have hg : x[u]? = y[v]? := hg
        rw [List.getElem?_eq_getElem lu, List.getElem?_eq_getElem lv] at hg
        injection hg
      show turnJ _ _ _ _ _ _ _ _ _ _ (.tup [.int u, .int v]) _ _
      refine turn1i rfl ?_
      repeat walk_at "wk"
      refine G_at hx5 u rfl lu (by walk_at "lt") (fun _ _ => rfl) ?_
      repeat walk_at "wk"
      refine G_at hy5 v rfl lv (by walk_at "lt") (fun _ _ => rfl) ?_
      repeat walk_at "wk"
      refine O_nec 4 (ox.ok _ (List.getElem_mem _)) (oy.ok _ (List.getElem_mem _)) (by decide) (fun q => absurd hg q) (fun _ => ?_)
      repeat walk_at "wk"
      exact ⟨rfl, rfl⟩
    obtain ⟨rfl, rfl⟩ := j
    repeat walk_at "wk"
    refine fun z8 => ?_
    refine O_neLf 4 (.inl (.tail _ (.head _))) (fun a h => absurd h List.not_mem_nil) (.inl (.head _)) (by decide) rfl ?_
    have k8 : ∀ e ∈ H3, e ∈ ((z8, AO.lst []) :: (z7, AO.lst []) :: H7) := fun e he => .tail _ (.tail _ (k5 _ (k4 _ he)))
    generalize ((z8, AO.lst []) :: (z7, AO.lst []) :: H7) = H8 at k8
    have hx8 : Has H8 p1 x := hx3.imp (k8 _) (k8 _)
    have hy8 : Has H8 p2 y := hy3.imp (k8 _) (k8 _)
    repeat walk_at "wk"
    refine B_plain ?_ rfl
    refine V_fn W P F16 rfl rfl (by decide) rfl ?_
    repeat walk_at "wk"
    refine right_c W F F14 F15 F16 hx8 hy8 (by omega) (by omega) ox oy fun H9 k9 => ?_
    have k9' : ∀ e ∈ H3, e ∈ H9 := fun e he => k9 e (k8 e he)
    repeat walk_at "wk"
    refine ft_ ?_
    repeat walk_at "wk"
    refine O_neT 4 (hx3.imp (k9' _) (k9' _)) ox.ok (hy3.imp (k9' _) (k9' _)) oy.ok (mb1.imp (k9' _) (k9' _)) ox.ok (mb2.imp (k9' _) (k9' _)) oy.ok (by decide) fun t ht => ?_
    obtain rfl : t = false := by
      cases t with
      | false => rfl
      | true => exact absurd ⟨rfl, rfl⟩ (ht.mp rfl)
    repeat walk_at "wk"
    obtain ⟨sp, rs, s1, s2, s3⟩ := hp3.hp
    refine .here ⟨v1, ⟨⟨sp, rs, by omega, s2, k9' _ s3⟩, hp3.hq.imp (k9' _) (k9' _), hp3.ne, hp3.l⟩⟩
  · rintro V' H1 ⟨v1, hp1⟩
    repeat walk_at "wk"
    refine V_fn W P F10 rfl rfl (by decide) rfl ?_
    repeat walk_at "wk"
    refine draw_c W F10 (by decide) (by omega) hp1 fun d H2 hd k2 hp2 => ?_
    repeat walk_at "wk"
    refine dc_ (fun h => ?_) (fun h => ?_)
    · refine S_assignComp P rfl rfl (by decide) rfl (by decide) rfl (fun _ => rfl) (V' := []) (fun C => sees P _ rfl rfl rfl rfl trivial trivial) ?_
      refine R_up' W P rfl rfl (V_int ⟨41, rfl, by decide, ?_⟩)
      refine compUp P rfl (by decide) (fun k ys H' => ys = (List.range k).map (fun (i : Nat) => AV.tup [.str "int", .int i])) rfl (fun C i ys H' P' hi j => ?_) (fun ys H3 j D3 => ?_)
      · refine turn1 rfl ?_
        repeat walk_at "wk"
        rw [j, List.range_succ, List.map_append]; rfl
      refine S_assignComp P rfl rfl (by decide) rfl (by decide) rfl (fun _ => rfl) (V' := []) (fun C => sees P _ rfl rfl rfl rfl trivial trivial) ?_
      refine R_up' W P rfl rfl (V_int ⟨42, rfl, by decide, ?_⟩)
      refine compUp P rfl (by decide) (fun k zs H' => zs = (List.range k).map (fun (i : Nat) => AV.tup [.str "int", .int (100 + (i : Int))]) ∧ (D3, .lst ys) ∈ H') ⟨rfl, .head _⟩ (fun C i zs H' P' hi j => ?_) (fun zs H4 j4 D4 => ?_)
      · refine turn1 rfl ?_
        repeat walk_at "wk"
        refine ⟨?_, j.2⟩
        rw [j.1, List.range_succ, List.map_append]; rfl
      have ey : ys = farL := j
      have ez : zs = besL := j4.1
      have hx4 : Has ((D4, AO.lst zs) :: H4) D3 farL := .inl (.tail _ (ey ▸ j4.2))
      have hy4 : Has ((D4, AO.lst zs) :: H4) D4 besL := .inl (ez ▸ .head _)
      have of' : ∀ a ∈ farL, AV.ok 4 a = true := fun a ha => by obtain ⟨i, _, rfl⟩ := List.mem_map.mp ha; exact ok_int7 _
      have ob' : ∀ a ∈ besL, AV.ok 4 a = true := fun a ha => by obtain ⟨i, _, rfl⟩ := List.mem_map.mp ha; exact ok_int7 _
      have l1 : farL.length = 41 := by rw [farL, List.length_map, List.length_range]
      have l2 : besL.length = 42 := by rw [besL, List.length_map, List.length_range]
      repeat walk_at "wk"
      refine V_fn W P F.f3 rfl rfl (by decide) rfl ?_
      repeat walk_at "wk"
      refine kept_c W F.f2 F.f3 hx4 hy4 (by omega) (by omega) of' ob' fun z H5 k5 hz => ?_
      refine V_comp (by decide) rfl (by decide) rfl (fun _ => rfl) (V' := []) (fun C => sees P _ rfl rfl rfl rfl trivial trivial) ?_
      refine R_up' W P rfl rfl (V_int ⟨41, rfl, by decide, ?_⟩)
      refine compUp P rfl (by decide) (fun i ys H' => ys = (List.range i).map (fun i => pt (i, i)) ∧ ∀ e ∈ H5, e ∈ H') ⟨rfl, fun e h => h⟩ (fun C i ys H' P' hi j => ?_) (fun ys H7 j z2 => ?_)
      · refine turn1 rfl ?_
        repeat walk_at "wk"
        exact ⟨by rw [j.1, List.range_succ, List.map_append]; rfl, j.2⟩
      refine O_eqLt 4 (.inl (.tail _ (j.2 _ hz))) (pts_ok _) (.inl (.head _)) (by decide) ?_ rfl
      rw [kp_far, j.1, List.map_map]; rfl
    · repeat walk_at "wk"
end

noncomputable def posOfD : Stmt → Pos
  | .FunctionDef _ _ _ _ _ _ _ _ _ p => p
  | _ => ⟨0, 0, 0, 0⟩
noncomputable def recAt (i : Nat) : DefRec := ⟨nameOfD (defAt i), paramsOf (defAt i), bodyOf (defAt i), scopeOf (defAt i), posOfD (defAt i)⟩
noncomputable def recIx : List Nat := [2, 3, 4, 5, 6, 7, 9, 10, 11, 12, 13, 14, 15, 16, 17]
theorem fn_of {p : Program} {loose : List Str} {mean : ExcName → Option Value} {mg mb : Str → Option Value} {B : Heap} (T : Top p loose mean mg mb B) (hr : recsOf p = recIx.map recAt) {i : Nat} (hi : i ∈ recIx) : ∃ a, Fn B mg i a := by
  obtain ⟨a, o, pm, code, doc, h1, h2, h3, h4⟩ := T.fn (recAt i) (hr ▸ List.mem_map.mpr ⟨i, hi, rfl⟩)
  exact ⟨a, h1, o, doc, pm, code, .none, Option.none, h2, h3, h4⟩
theorem ints_vr {vs : List Value} {ns : List Int} (h : IntsAre vs ns) (hp : Heap) : VRs hp vs (ns.map .int) := by
  induction h with
  | nil => exact .nil
  | cons n t _ ih => exact .cons (.int n t) ih
noncomputable def freeNames : List Str := (["range", "len", "max", "min", "list", "abs", "int"] : List String).map Str.ofString
theorem law_call {p prog : Program} {w : World} {loose : List Str} {mean : ExcName → Option Value} {mg mb : Str → Option Value} {B : Heap} {fa a : Addr} {vs : List Value} {ns : List Int} (T : Top p loose mean mg mb B) (hr : recsOf p = recIx.map recAt)
    (hc : valOf p (Str.ofString "MOST_CELLS") = some (.int 1600))
    (hf : ∀ x ∈ freeNames, x ∉ startupNames ∧ x ∉ loose ∧ x ∉ (recsOf p).map (·.name) ∧ x ∉ (litsOf p).map (·.1) ∧ x ∉ (clssOf p loose).map (·.name))
    (hfa : mg (nameOfD (defAt 17)) = some (.ref fa)) (hL : B.IsList a vs.toArray) (hI : IntsAre vs ns) (hn : ns.length ≤ 100) :
    opV prog w B 8 [.ref a] [] (fun vs => call (.ref fa) vs) (fun v _ => v = .bool true) := by
  have W : Wd B mg mb := by
    refine ⟨⟨T.g, T.b, T.builtins, T.nolimit⟩, fun x hx => ?_, ?_⟩
    · obtain ⟨h1, h2, h3, h4, h5⟩ := hf (Str.ofString x) (List.mem_map.mpr ⟨x, hx, rfl⟩)
      exact T.free _ h1 h2 h3 h4 h5
    · obtain ⟨v, h1, h2⟩ := T.const _ _ hc
      have h3 := h2 B
      cases h3 with
      | int _ t => exact ⟨t, h1⟩
  obtain ⟨c2, F2⟩ := fn_of T hr (i := 2) (by decide)
  obtain ⟨c3, F3⟩ := fn_of T hr (i := 3) (by decide)
  obtain ⟨c4, F4⟩ := fn_of T hr (i := 4) (by decide)
  obtain ⟨c7, F7⟩ := fn_of T hr (i := 7) (by decide)
  obtain ⟨c9, F9⟩ := fn_of T hr (i := 9) (by decide)
  obtain ⟨c10, F10⟩ := fn_of T hr (i := 10) (by decide)
  obtain ⟨c11, F11⟩ := fn_of T hr (i := 11) (by decide)
  obtain ⟨c12, F12⟩ := fn_of T hr (i := 12) (by decide)
  obtain ⟨c13, F13⟩ := fn_of T hr (i := 13) (by decide)
  obtain ⟨c14, F14⟩ := fn_of T hr (i := 14) (by decide)
  obtain ⟨c15, F15⟩ := fn_of T hr (i := 15) (by decide)
  obtain ⟨c16, F16⟩ := fn_of T hr (i := 16) (by decide)
  obtain ⟨c17, F17⟩ := fn_of T hr (i := 17) (by decide)
  obtain rfl : c17 = fa := by
    have := F17.mg.symm.trans hfa
    injection this with this; injection this
  refine enter W F17 ⟨rfl, rfl, rfl⟩ (names := ["script"]) (by decide) rfl (fun _ _ _ _ _ _ _ => BindsTo.of_eq rfl) (fun _ => ⟨.inl rfl, trivial⟩) fun L cdv P => ?_
  refine wpS.mono (law_c (n := 0) W ⟨F2, F3, F4, F7⟩ F9 F10 F11 F12 F13 F14 F15 F16 hL (ints_vr hI) hn) fun fl V' H' e => ?_
  subst e
  rfl
theorem law_ends {p prog : Program} {w : World} {loose : List Str} {mean : ExcName → Option Value} {mg mb : Str → Option Value} {s : Shared} {fa a : Addr} {vs : List Value} {ns : List Int} {Q E : Value → Shared → Prop} (T : Top p loose mean mg mb s.heap) (hr : recsOf p = recIx.map recAt)
    (hc : valOf p (Str.ofString "MOST_CELLS") = some (.int 1600))
    (hf : ∀ x ∈ freeNames, x ∉ startupNames ∧ x ∉ loose ∧ x ∉ (recsOf p).map (·.name) ∧ x ∉ (litsOf p).map (·.1) ∧ x ∉ (clssOf p loose).map (·.name))
    (hfa : mg (nameOfD (defAt 17)) = some (.ref fa)) (hL : s.heap.IsList a vs.toArray) (hI : IntsAre vs ns) (hn : ns.length ≤ 100)
    (hQ : ∀ h tk, (∀ b o, s.heap.get? b = some o → h.get? b = some o) → Q (.bool true) { s with heap := h, toks := tk }) :
    wpAny (model prog w) callerA (call (.ref fa) [.ref a]) Q E s := by
  have R : Room callerA 8 := ⟨rfl, by decide, by decide⟩
  have hi : HI s.heap [] s.heap := ⟨fun _ _ e => e, List.nodup_nil, fun _ h => absurd h List.not_mem_nil, fun _ h => absurd h List.not_mem_nil⟩
  refine wpAny_mono (law_call T hr hc hf hfa hL hI hn callerA s [.ref a] R hi (.cons (.ref a) .nil)) (fun v s' ⟨b, H', h1, h2, h3⟩ => ?_) fun _ _ e => e.elim
  subst h1
  obtain rfl := h2.toBool
  obtain ⟨h, tk, rfl⟩ := h3.out
  exact hQ h tk fun b o e => h3.keep b o e fun _ h => absurd h List.not_mem_nil

end Mine

open PySem PySem.W PyProof.Rows
set_option maxRecDepth 100000 in
set_option maxHeartbeats 8000000 in
theorem PySem.Challenge.cw_og0128_01_holds : PySem.Challenge.rw_og0128_01.Holds := by
  (w_on; o_law; o_head Hook.none; (case hw => w_witness2); w_strict (
    intro w s₀ s₁ mg mb G Y fa o pm cd doc dV kV ho hd hcd hD hmg hg args vals as hpre hlay hrd hwl hlo
    refine Ground.open G ?_
    intro T B D TE TW
    wrow_args hpre hlay hrd hwl hlo
    refine Mine.law_ends T ?zr ?zc ?zf ?zfa (by assumption) (by assumption) ?zn ?zQ
    case zr => kernel_rfl
    case zc => kernel_rfl
    case zf => decide +kernel
    case zfa => exact hmg
    case zn => omega
    case zQ =>
      intro h tk hk
      refine GoodW.toG ⟨.inl ⟨.bool true, .bool true, [], rfl, ?_, .bool true, ?_, ?_⟩, hk, rfl, hg⟩
      · intro cls; rfl
      · wrow_post
      · intro _; exact ⟨List.nodup_nil, fun a h => absurd h List.not_mem_nil⟩))
